import PyProof.Rows.All
import Wide.All
import OpenK.AllK
import Wide.FinOn
import HandS.ForMost
import HandS.ForExc
import HandS.HeadHook1
import HandS.Slots
import KE.KeyNested
import HandS.Defaults
import HandS.TupAny
import HandS.TupMul
import HandS.Wide
import HandS.Style
import HandS.Star
import HandS.IsInst
import HandS.Flow
import HandS.Conv
import KE.GoesEnum
import HandS.Head0
import HandS.Head1
import HandS.Head2
import HandS.HeadEnd
import HandS.HeadHook2
import KE.DataAny
import KE.KRevSl
import HandS.Strs
import HandS.SetBool
import HandS.SetFor
import PyProof.ListNew
import HandS.SortInts
import HandS.GenList
import KE.DataEq
import HandS.TupLe
import KE.LtData
import KE.KSortTup
import HandS.SortRule
import KE.KDictList
import KE.KExcSuper
import HandS.ExcInit
import HandS.Nested
import HandS.Lambda
import HandS.ExcIs
import HandS.ExcField
import KE.KExcIs
import HandS.HeadHook4
import HandS.EndTab
import HandS.NestedK
import HandS.HeadHook3
import KE.GoesMore
import HandS.Zip
import HandS.SlotsOwn
import HandS.Property
import HandS.MakeKw
import HandS.NamedTupGet
import HandS.HotCalls
import HandS.TupSets
import HandS.DictTup
import KE.KDictWalk
import HandS.DictComp
import HandS.ListItems
import HandS.ExcValue
import KE.DataMinMax
import KE.SortData
import PySem.Challenge.RW_honestbars_k22_runs_counted
set_option Elab.async false
set_option linter.all false
set_option maxRecDepth 100000
set_option maxHeartbeats 0
namespace Dl
open PySem L2
inductive D where
  | non
  | bl (b : Bool)
  | int (i : Int)
  | str (x : Str)
  | byt (b : Array UInt8)
  | tup (xs : List D)
  | lst (xs : List D)
  | ref (a : Addr)
  /-- the script: a list of ints that is read alone -/
  | scr (ns : List Int)
  /-- a lambda, by what is true of its object and its code object (of the name q); n0, H0: what stood when it was handed on -/
  | fn (q : Str) (φ : Addr → Addr → Heap → Prop) (n0 : Addr → Prop) (H0 : Hp)
  /-- an exception at a that is handled: of the class of the name c, its fields at d -/
  | exh (a : Addr) (c : Str) (d : Addr) (ns : List Str) (vs : List D)
def kempB (K : PySem.W.Frag) : Bool := K.any fun p => match p.2 with
  | ⟨.type c, _, .seq its _, _⟩ => decide (c = "tuple") && (match its.toList with
    | .str x _ :: _ :: _ => decide (x = ("row" : Str))
    | _ => false)
  | _ => false
end Dl
namespace Dl
open PySem L2
mutual
def repB (K : PySem.W.Frag) : D → Value → Bool
  | .non, u => (match u with
    | .none => true
    | _ => false)
  | .bl b, u => (match u with
    | .bool c => b == c
    | _ => false)
  | .int i, u => (match u with
    | .int j _ => decide (i = j)
    | _ => false)
  | .str x, u => (match u with
    | .str y _ => decide (x = y)
    | _ => false)
  | .tup ds, u => (match u with
    | .ref a => (match K.lookup a with
      | some ⟨.type c, _, .seq its _, _⟩ => decide (c = "tuple") && (decide (its.size ≤ sizeLine) && ((!ds.isEmpty || kempB K) && repBs K ds its.toList))
      | _ => false)
    | _ => false)
  | _, _ => false
def repBs (K : PySem.W.Frag) : List D → List Value → Bool
  | [], [] => true
  | d :: ds, u :: us => repB K d u && repBs K ds us
  | _, _ => false
end
inductive Fx where
  | glo (x : Str)
  | free (x : Str)
  | dat (x : Str) (d : D)
  /-- a fact of a class -/
  | fa (f : He.Fa)
  /-- any other look at the written part -/
  | kb (f : PySem.W.Frag → Bool)
def Fx.ok (K : PySem.W.Frag) : Fx → Bool
  | .glo x => (He.Fa.glo x).ok K
  | .free x => (He.Fa.free x).ok K
  | .dat x d => (match PySem.W.nsIn K mainGlobals x with
    | some (some u) => repB K d u
    | _ => false)
  | .fa f => f.ok K
  | .kb f => f K
def obsX (fx : List Fx) (fn : List He.DefD) (K : PySem.W.Frag) : He.AlD := ((fx.all fun f => f.ok K) && fn.all fun d => d.ok K, fn.map fun d => He.fnW K d.at_)
def SaysX (fx : List Fx) (fn : List He.DefD) (K : PySem.W.Frag) : Prop := obsX fx fn K = He.valD fn
def obsXG (n : Nat) (fx : List Fx) (fn : List He.DefD) (g : Addr → Option Obj) : He.AlD := obsX fx fn (He.frG g (He.asD g n))
def hookX (n : Nat) (fx : List Fx) (fn : List He.DefD) : PySem.W.Hook where
  α := He.AlD
  obs := fun s => obsXG n fx fn s.heap.get?
  val := fun _ => He.valD fn
  says := fun _ h => ∃ K : PySem.W.Frag, K.In h ∧ SaysX fx fn K
  of := fun _ _ e => ⟨_, He.frG_in, e⟩
  keeps := fun _ _ _ ⟨K, hK, c⟩ k => ⟨K, PySem.W.Frag.In.keeps hK k, c⟩
end Dl
namespace K22
open PySem L2 Dl
open PyProof.Rows
def top (i : Nat) : Stmt := PySem.Challenge.pw_honestbars_k22_runs_counted.main.body.getD i (.Pass ⟨0, 0, 0, 0⟩)
abbrev s_choices_among : Stmt := top 4
abbrev s_joined : Stmt := top 5
abbrev s_added : Stmt := top 6
abbrev s_longer : Stmt := top 7
abbrev s_round_tables : Stmt := top 8
abbrev s_length_table : Stmt := top 9
abbrev s_lengths_of : Stmt := top 10
abbrev s_how_many_runs : Stmt := top 11
abbrev s_shortest_run : Stmt := top 12
abbrev s_law_feed : Stmt := top 14
abbrev s_law_draw : Stmt := top 15
abbrev s_law_tidy : Stmt := top 16
abbrev s_law_next : Stmt := top 17
abbrev s_law_behind : Stmt := top 18
abbrev s_law_after : Stmt := top 19
abbrev s_law_is_tick : Stmt := top 20
abbrev s_law_end : Stmt := top 21
abbrev s_law_rounds : Stmt := top 22
abbrev s_law_job : Stmt := top 23
abbrev s_law_sides : Stmt := top 24
abbrev s_law_great : Stmt := top 25
abbrev s_law_lengths : Stmt := top 26
abbrev s_law_shortest : Stmt := top 27
abbrev s_law_is_small : Stmt := top 28
abbrev s_law_small_job : Stmt := top 29
abbrev s_law_broad : Stmt := top 30
abbrev s_law_agrees : Stmt := top 31
abbrev s_law : Stmt := top 32
def d_choices_among_ : He.DefD := ⟨("choices_among", none), "choices_among", "choices_among", defArgs s_choices_among, defBody s_choices_among, defScope s_choices_among, [], []⟩
def d_joined_ : He.DefD := ⟨("joined", none), "joined", "joined", defArgs s_joined, defBody s_joined, defScope s_joined, [.bl false], []⟩
def d_added_ : He.DefD := ⟨("added", none), "added", "added", defArgs s_added, defBody s_added, defScope s_added, [], []⟩
def d_longer_ : He.DefD := ⟨("longer", none), "longer", "longer", defArgs s_longer, defBody s_longer, defScope s_longer, [], []⟩
def d_round_tables_ : He.DefD := ⟨("round_tables", none), "round_tables", "round_tables", defArgs s_round_tables, defBody s_round_tables, defScope s_round_tables, [], []⟩
def d_length_table_ : He.DefD := ⟨("length_table", none), "length_table", "length_table", defArgs s_length_table, defBody s_length_table, defScope s_length_table, [], []⟩
def d_lengths_of_ : He.DefD := ⟨("lengths_of", none), "lengths_of", "lengths_of", defArgs s_lengths_of, defBody s_lengths_of, defScope s_lengths_of, [], []⟩
def d_how_many_runs_ : He.DefD := ⟨("how_many_runs", none), "how_many_runs", "how_many_runs", defArgs s_how_many_runs, defBody s_how_many_runs, defScope s_how_many_runs, [], []⟩
def d_shortest_run_ : He.DefD := ⟨("shortest_run", none), "shortest_run", "shortest_run", defArgs s_shortest_run, defBody s_shortest_run, defScope s_shortest_run, [], []⟩
def d_law_feed_ : He.DefD := ⟨("_law_feed", none), "_law_feed", "_law_feed", defArgs s_law_feed, defBody s_law_feed, defScope s_law_feed, [], []⟩
def d_law_draw_ : He.DefD := ⟨("_law_draw", none), "_law_draw", "_law_draw", defArgs s_law_draw, defBody s_law_draw, defScope s_law_draw, [], []⟩
def d_law_tidy_ : He.DefD := ⟨("_law_tidy", none), "_law_tidy", "_law_tidy", defArgs s_law_tidy, defBody s_law_tidy, defScope s_law_tidy, [], []⟩
def d_law_next_ : He.DefD := ⟨("_law_next", none), "_law_next", "_law_next", defArgs s_law_next, defBody s_law_next, defScope s_law_next, [], []⟩
def d_law_behind_ : He.DefD := ⟨("_law_behind", none), "_law_behind", "_law_behind", defArgs s_law_behind, defBody s_law_behind, defScope s_law_behind, [], []⟩
def d_law_after_ : He.DefD := ⟨("_law_after", none), "_law_after", "_law_after", defArgs s_law_after, defBody s_law_after, defScope s_law_after, [], []⟩
def d_law_is_tick_ : He.DefD := ⟨("_law_is_tick", none), "_law_is_tick", "_law_is_tick", defArgs s_law_is_tick, defBody s_law_is_tick, defScope s_law_is_tick, [], []⟩
def d_law_end_ : He.DefD := ⟨("_law_end", none), "_law_end", "_law_end", defArgs s_law_end, defBody s_law_end, defScope s_law_end, [], []⟩
def d_law_rounds_ : He.DefD := ⟨("_law_rounds", none), "_law_rounds", "_law_rounds", defArgs s_law_rounds, defBody s_law_rounds, defScope s_law_rounds, [], []⟩
def d_law_job_ : He.DefD := ⟨("_law_job", none), "_law_job", "_law_job", defArgs s_law_job, defBody s_law_job, defScope s_law_job, [], []⟩
def d_law_sides_ : He.DefD := ⟨("_law_sides", none), "_law_sides", "_law_sides", defArgs s_law_sides, defBody s_law_sides, defScope s_law_sides, [], []⟩
def d_law_great_ : He.DefD := ⟨("_law_great", none), "_law_great", "_law_great", defArgs s_law_great, defBody s_law_great, defScope s_law_great, [], []⟩
def d_law_lengths_ : He.DefD := ⟨("_law_lengths", none), "_law_lengths", "_law_lengths", defArgs s_law_lengths, defBody s_law_lengths, defScope s_law_lengths, [], []⟩
def d_law_shortest_ : He.DefD := ⟨("_law_shortest", none), "_law_shortest", "_law_shortest", defArgs s_law_shortest, defBody s_law_shortest, defScope s_law_shortest, [], []⟩
def d_law_is_small_ : He.DefD := ⟨("_law_is_small", none), "_law_is_small", "_law_is_small", defArgs s_law_is_small, defBody s_law_is_small, defScope s_law_is_small, [], []⟩
def d_law_small_job_ : He.DefD := ⟨("_law_small_job", none), "_law_small_job", "_law_small_job", defArgs s_law_small_job, defBody s_law_small_job, defScope s_law_small_job, [], []⟩
def d_law_broad_ : He.DefD := ⟨("_law_broad", none), "_law_broad", "_law_broad", defArgs s_law_broad, defBody s_law_broad, defScope s_law_broad, [], []⟩
def d_law_agrees_ : He.DefD := ⟨("_law_agrees", none), "_law_agrees", "_law_agrees", defArgs s_law_agrees, defBody s_law_agrees, defScope s_law_agrees, [], []⟩
def d_law_ : He.DefD := ⟨("law", none), "law", "law", defArgs s_law, defBody s_law, defScope s_law, [], []⟩
def fn : List He.DefD := [d_choices_among_, d_joined_, d_added_, d_longer_, d_round_tables_, d_length_table_, d_lengths_of_, d_how_many_runs_, d_shortest_run_, d_law_feed_, d_law_draw_, d_law_tidy_, d_law_next_, d_law_behind_, d_law_after_, d_law_is_tick_, d_law_end_, d_law_rounds_, d_law_job_, d_law_sides_, d_law_great_, d_law_lengths_, d_law_shortest_, d_law_is_small_, d_law_small_job_, d_law_broad_, d_law_agrees_, d_law_]
def fx : List Fx := ([.glo "choices_among", .glo "joined", .glo "added", .glo "longer", .glo "round_tables", .glo "length_table", .glo "lengths_of", .glo "how_many_runs", .glo "shortest_run", .glo "_law_feed", .glo "_law_draw", .glo "_law_tidy", .glo "_law_next", .glo "_law_behind", .glo "_law_after", .glo "_law_is_tick", .glo "_law_end", .glo "_law_rounds", .glo "_law_job", .glo "_law_sides", .glo "_law_great", .glo "_law_lengths", .glo "_law_shortest", .glo "_law_is_small", .glo "_law_small_job", .glo "_law_broad", .glo "_law_agrees", .glo "law", .free "enumerate", .free "int"] : List Fx) ++ ([.free "isinstance", .free "len", .free "list", .free "max", .free "min", .free "range", .free "repr", .free "sorted", .free "sum", .free "tuple", .dat "TICK" (.str "tick"), .dat "MORE" (.str "more"), .dat "END" (.str "end")] : List Fx)
abbrev Rw : PySem.W.OpenRow := PySem.W.OpenLaw.row PySem.Challenge.rw_honestbars_k22_runs_counted
abbrev hk : PySem.W.Hook := hookX 4 fx fn
def ob (s : PySem.W.SharedT) : He.AlD := obsXG 4 fx fn (HandSHeadRun.getT s)
abbrev loose : List Str := (["OVER", "TICK", "MORE", "END", "PLAIN_SIGNS", "NUMBER_SIGNS", "SIDES", "choices_among", "joined", "added", "longer", "round_tables", "length_table", "lengths_of", "how_many_runs", "shortest_run", "_law_feed", "_law_draw", "_law_tidy", "_law_next", "_law_behind", "_law_after", "_law_is_tick", "_law_end", "_law_rounds", "_law_job", "_law_sides", "_law_great", "_law_lengths", "_law_shortest"] : List Str) ++ (["_law_is_small", "_law_small_job", "_law_broad", "_law_agrees", "BarError", "WorkError", "NotUsable", "NotNext"] : List Str)
theorem run (w : World) : HandSHeadRun.RunEq Rw (PySem.W.view Rw.prog [32]) hk ob 8000 loose w := by
  intro os
  kernel_rfl
end K22
namespace Dl
open PySem L2
mutual
def nk : D → NestedKey
  | .int i => .num i
  | .str x => .text x
  | .tup ds => .tup (nks ds)
  | _ => .none
def nks : List D → List NestedKey
  | [] => []
  | d :: ds => nk d :: nks ds
end
mutual
def isK : D → Bool
  | .int _ => true
  | .str x => PyData.strOk x
  | .tup ds => isKs ds
  | _ => false
def isKs : List D → Bool
  | [] => true
  | d :: ds => isK d && isKs ds
end
def keyOk (d : D) : Prop := isK d = true ∧ (nk d).depth ≤ 8
def DnyO (a : Addr) (q : List (Int × V × V)) : HO := .ext fun h => q.length ≤ sizeLine ∧ (a == sysModules) = false ∧ ∃ o es ep, h.get? a = some o ∧ o.ExactDict ∧ o.data = .dict es ep ∧ Paired (fun (x : Int × V × V) (e : DictEntry) => e.hash = x.1 ∧ RelV x.2.1 e.key ∧ RelV x.2.2 e.val) q es.toList
def KvOk (kvs : List (D × D)) : Prop := (kvs.map fun p => nk p.1).Nodup ∧ ∀ p ∈ kvs, keyOk p.1
inductive DO where
  | lst (xs : List D)
  | dct (kvs : List (Key × D))
  | raw (o : HO)
  /-- an instance of the class of that name, its attributes -/
  | ins (c : Str) (fs : List (Str × D))
  /-- a dict whose keys are tuples of ints and texts -/
  | dtp (kvs : List (List Key × D))
  /-- a table of code objects of the name q -/
  | tab (q : Str)
  /-- an instance with slots of the class of the name c -/
  | slt (c : Str) (vs : List (Option D))
  /-- a dict whose keys are data of any kind, in the world w; while it is walked: the object -/
  | dny (w : World) (lk : Option Obj) (kvs : List (D × D))
abbrev GH := Addr → Option DO
def updG (G : GH) (a : Addr) (o : DO) : GH := fun b => if b = a then some o else G b
def dropG (G : GH) (a : Addr) : GH := fun b => if b = a then none else G b
theorem updG_same {G : GH} {a : Addr} {o : DO} : updG G a o a = some o := by unfold updG; rw [if_pos rfl]
theorem updG_ne {G : GH} {a b : Addr} {o : DO} (h : b ≠ a) : updG G a o b = G b := by unfold updG; rw [if_neg h]
theorem dropG_same {G : GH} {a : Addr} : dropG G a a = none := by unfold dropG; rw [if_pos rfl]
theorem dropG_ne {G : GH} {a b : Addr} (h : b ≠ a) : dropG G a b = G b := by unfold dropG; rw [if_neg h]
theorem updG_updG {G : GH} {a : Addr} {o u : DO} : updG (updG G a o) a u = updG G a u := by
  funext b; unfold updG; split <;> rfl
theorem dropG_updG {G : GH} {a : Addr} {o : DO} (h : G a = none) : dropG (updG G a o) a = G := by
  funext b
  by_cases e : b = a
  · subst e; rw [dropG_same, h]
  · rw [dropG_ne e, updG_ne e]
def TupAt (K : PySem.W.Frag) (G : GH) (H : Hp) (a : Addr) (xs : List V) : Prop := (G a = none ∧ H a = some (.tup xs)) ∨
  (xs = [] → kempB K = true) ∧ ∃ (o : Obj) (its : Array Value) (n : Nat), K.lookup a = some o ∧ o.cls = .type "tuple" ∧ o.data = .seq its n ∧ its.size ≤ sizeLine ∧ Vals xs its.toList
def LstAt (G : GH) (H : Hp) (a : Addr) (xs : List V) : Prop := G a = none ∧ H a = some (.lst xs)
theorem TupAt.sq {K : PySem.W.Frag} {G : GH} {H : Hp} {a : Addr} {xs : List V} (h : TupAt K G H a xs) : SqT K H a xs := h.elim (fun h => .inl (.inl h.2)) (fun h => .inr h.2)
theorem LstAt.sq {K : PySem.W.Frag} {G : GH} {H : Hp} {a : Addr} {xs : List V} (h : LstAt G H a xs) : SqL K H a xs := SqL.of h.2
def ScrAt (K : PySem.W.Frag) (G : GH) (H : Hp) (a : Addr) (xs : List V) : Prop := (G a = none ∧ Rd H a (.lst xs)) ∨
  ∃ (o : Obj) (its : Array Value) (n : Nat), K.lookup a = some o ∧ o.cls = .type "list" ∧ o.dict = none ∧ o.data = .seq its n ∧ its.size ≤ sizeLine ∧ Vals xs its.toList
theorem ScrAt.sq {K : PySem.W.Frag} {G : GH} {H : Hp} {a : Addr} {xs : List V} (h : ScrAt K G H a xs) : SqL K H a xs := h.elim (fun h => .inl h.2) .inr
def CodeQ (c : Addr) (q : Str) : HO := .ext fun h => ∃ (oc : Obj) (vs : Array Value) (t : Tok), h.get? c = some oc ∧ oc.data = .fields vs ∧ vs[1]? = some (.str q t)
mutual
def RepV (K : PySem.W.Frag) (G : GH) (H : Hp) : D → V → Prop
  | .non, v => v = .non
  | .bl b, v => v = .bl b
  | .int i, v => v = .int i
  | .str x, v => v = .str x
  | .byt x, v => v = .byt x
  | .tup ds, v => ∃ a xs, v = .ref a ∧ TupAt K G H a xs ∧ RepL K G H ds xs
  | .lst ds, v => ∃ a xs, v = .ref a ∧ LstAt G H a xs ∧ RepL K G H ds xs
  | .ref a, v => v = .ref a
  | .scr ns, v => ∃ a, v = .ref a ∧ ScrAt K G H a (ns.map V.int)
  | .fn q φ n0 H0, v => ∃ a c, v = .ref a ∧ G a = none ∧ H a = some (.ext (φ a c)) ∧ G c = none ∧ H c = some (CodeQ c q) ∧ ∀ b o, H0 b = some o → (∃ o', H b = some o') ∧ (n0 b → G b = none ∧ H b = some o)
  | .exh a c d ns ds, v => ∃ ws : List (Str × V), v = .ref a ∧ G d = none ∧ H d = some (.xd ws) ∧ ws.map (·.1) = ns ∧ RepL K G H ds (ws.map (·.2))
def RepL (K : PySem.W.Frag) (G : GH) (H : Hp) : List D → List V → Prop
  | [], xs => xs = []
  | d :: ds, xs => ∃ x r, xs = x :: r ∧ RepV K G H d x ∧ RepL K G H ds r
end
def Ext (G : GH) (H : Hp) (G' : GH) (H' : Hp) : Prop := ∀ a o, H a = some o → (∃ o', H' a = some o') ∧ (G a = none → G' a = none ∧ H' a = some o)
theorem Ext.refl (G : GH) (H : Hp) : Ext G H G H := fun a o h => ⟨⟨o, h⟩, fun g => ⟨g, h⟩⟩
theorem Ext.trans {G G1 G2 : GH} {H H1 H2 : Hp} (a : Ext G H G1 H1) (b : Ext G1 H1 G2 H2) : Ext G H G2 H2 := fun x o h => by
  obtain ⟨⟨o1, h1⟩, k⟩ := a x o h
  obtain ⟨⟨o2, h2⟩, _⟩ := b x o1 h1
  refine ⟨⟨o2, h2⟩, fun g => ?_⟩
  obtain ⟨g1, e1⟩ := k g
  exact (b x o e1).2 g1
theorem Ext.new {G : GH} {H : Hp} {p : Addr} {o : HO} (h : H p = none) : Ext G H G (upd H p o) := fun a u e => by
  have n : a ≠ p := ne_of_none e h
  rw [upd_ne n]
  exact ⟨⟨u, e⟩, fun g => ⟨g, e⟩⟩
theorem Ext.newG {G : GH} {H : Hp} {p : Addr} {o : HO} {u : DO} (h : H p = none) : Ext G H (updG G p u) (upd H p o) := fun a v e => by
  have n : a ≠ p := ne_of_none e h
  rw [upd_ne n, updG_ne n]
  exact ⟨⟨v, e⟩, fun g => ⟨g, e⟩⟩
theorem Ext.write {G : GH} {H : Hp} {p : Addr} {o : HO} {u w : DO} (h : G p = some w) : Ext G H (updG G p u) (upd H p o) := fun a v e => by
  by_cases n : a = p
  · subst n
    refine ⟨⟨_, upd_same⟩, fun g => ?_⟩
    rw [h] at g; cases g
  · rw [upd_ne n, updG_ne n]
    exact ⟨⟨v, e⟩, fun g => ⟨g, e⟩⟩
theorem Ext.drop {G : GH} {H : Hp} {p : Addr} : Ext G H (dropG G p) H := fun a v e => by
  refine ⟨⟨v, e⟩, fun g => ⟨?_, e⟩⟩
  by_cases n : a = p
  · subst n; exact dropG_same
  · rw [dropG_ne n]; exact g
def TabD (G : GH) (H : Hp) (a : Addr) (q : Str) : Prop :=
  ∃ ps : Array Value, H a = some (.tbl ps) ∧ TriplesOk ps.toList ∧ ∀ (pos : Pos) (cv : Value), codeAmong pos ps.toList = some cv → ∃ c, cv = .ref c ∧ G c = none ∧ H c = some (CodeQ c q)
def RepO (K : PySem.W.Frag) (G : GH) (H : Hp) (vs : List (Option D)) (ws : List (Option V)) : Prop := vs.length = ws.length ∧ ∀ (i : Nat) (d : D), vs[i]? = some (some d) → ∃ v, ws[i]? = some (some v) ∧ RepV K G H d v
def SltD (K : PySem.W.Frag) (G : GH) (H : Hp) (a : Addr) (c : Str) (vs : List (Option D)) : Prop := ∃ (dx : Addr) (ws : List (Option V)), G dx = none ∧ H a = some (SlX.SlO a (He.ga K c) dx ws) ∧ H dx = some (.xd []) ∧ RepO K G H vs ws
def NyH (a : Addr) (lk : Option Obj) (q : List (Int × V × V)) : HO := match lk with
  | none => DnyO a q
  | some od => .frz od (DnyO a q)
def NyD (K : PySem.W.Frag) (G : GH) (H : Hp) (a : Addr) (w : World) (lk : Option Obj) (kvs : List (D × D)) : Prop := KvOk kvs ∧ ∃ q : List (Int × V × V), H a = some (NyH a lk q) ∧ q.map (·.1) = kvs.map (fun p => (nk p.1).hash w) ∧ RepL K G H (kvs.map (·.1)) (q.map (·.2.1)) ∧ RepL K G H (kvs.map (·.2)) (q.map (·.2.2))
def DOk (K : PySem.W.Frag) (G : GH) (H : Hp) (a : Addr) : DO → Prop
  | .lst ds => ∃ xs, H a = some (.lst xs) ∧ RepL K G H ds xs
  | .dct kvs => ∃ ws : List (Key × V), H a = some (.dK ws) ∧ ws.map (·.1) = kvs.map (·.1) ∧ RepL K G H (kvs.map (·.2)) (ws.map (·.2))
  | .raw o => H a = some o
  | .ins c fs => ∃ (dx : Addr) (ws : List (Str × V)), H a = some (.ins (He.ga K c) dx ws) ∧ ws.map (·.1) = fs.map (·.1) ∧ RepL K G H (fs.map (·.2)) (ws.map (·.2))
  | .dtp kvs => ∃ ws : List (List Key × V), H a = some (.dT ws) ∧ ws.map (·.1) = kvs.map (·.1) ∧ RepL K G H (kvs.map (·.2)) (ws.map (·.2))
  | .tab q => TabD G H a q
  | .slt c vs => SltD K G H a c vs
  | .dny w lk kvs => NyD K G H a w lk kvs
def GOk (K : PySem.W.Frag) (G : GH) (H : Hp) : Prop := ∀ a o, G a = some o → DOk K G H a o
theorem DOk.there {K : PySem.W.Frag} {G : GH} {H : Hp} {a : Addr} {o : DO} (h : DOk K G H a o) : ∃ u, H a = some u := by
  cases o with
  | lst ds => obtain ⟨xs, e, _⟩ := h; exact ⟨_, e⟩
  | dct kvs => obtain ⟨xs, e, _⟩ := h; exact ⟨_, e⟩
  | dtp kvs => obtain ⟨xs, e, _⟩ := h; exact ⟨_, e⟩
  | raw u => exact ⟨u, h⟩
  | ins c fs => obtain ⟨dx, xs, e, _⟩ := h; exact ⟨_, e⟩
  | tab q => obtain ⟨ps, e, _⟩ := h; exact ⟨_, e⟩
  | slt c vs => obtain ⟨dx, ws, _, e, _⟩ := h; exact ⟨_, e⟩
  | dny w lk kvs => obtain ⟨_, q, e, _⟩ := h; exact ⟨_, e⟩
theorem GOk.fresh {K : PySem.W.Frag} {G : GH} {H : Hp} (g : GOk K G H) {p : Addr} (h : H p = none) : G p = none := by
  cases q : G p with
  | none => rfl
  | some o =>
    obtain ⟨u, e⟩ := (g p o q).there
    rw [h] at e; cases e
section
variable {K : PySem.W.Frag} {G G' : GH} {H H' : Hp}
theorem TabD.ext (e : Ext G H G' H') {a : Addr} {q : Str} (h : TabD G H a q) (ha : H' a = H a) : TabD G' H' a q := by
  obtain ⟨ps, h1, h2, h3⟩ := h
  refine ⟨ps, ha.trans h1, h2, fun pos cv hc => ?_⟩
  obtain ⟨c, e1, g, e2⟩ := h3 pos cv hc
  exact ⟨c, e1, (e _ _ e2).2 g⟩
theorem TupAt.ext (e : Ext G H G' H') {a : Addr} {xs : List V} (h : TupAt K G H a xs) : TupAt K G' H' a xs := by
  rcases h with ⟨g, h⟩ | h
  · exact .inl (((e _ _ h).2 g))
  · exact .inr h
theorem ScrAt.ext (e : Ext G H G' H') {a : Addr} {xs : List V} (h : ScrAt K G H a xs) : ScrAt K G' H' a xs := by
  rcases h with ⟨g, h | ⟨o, h⟩⟩ | h
  · exact .inl ⟨((e _ _ h).2 g).1, .inl ((e _ _ h).2 g).2⟩
  · exact .inl ⟨((e _ _ h).2 g).1, .inr ⟨o, ((e _ _ h).2 g).2⟩⟩
  · exact .inr h
theorem LstAt.ext (e : Ext G H G' H') {a : Addr} {xs : List V} (h : LstAt G H a xs) : LstAt G' H' a xs := (e _ _ h.2).2 h.1
mutual
theorem RepV.ext (e : Ext G H G' H') : ∀ {d : D} {v : V}, RepV K G H d v → RepV K G' H' d v
  | .non, _, h => h
  | .bl _, _, h => h
  | .int _, _, h => h
  | .str _, _, h => h
  | .byt _, _, h => h
  | .tup _, _, h => by
    unfold RepV at h ⊢
    obtain ⟨a, xs, ev, t, r⟩ := h
    exact ⟨a, xs, ev, t.ext e, r.ext e⟩
  | .lst _, _, h => by
    unfold RepV at h ⊢
    obtain ⟨a, xs, ev, t, r⟩ := h
    exact ⟨a, xs, ev, t.ext e, r.ext e⟩
  | .ref _, _, h => h
  | .scr _, _, h => by
    unfold RepV at h ⊢
    obtain ⟨a, ev, t⟩ := h
    exact ⟨a, ev, t.ext e⟩
  | .fn _ _ _ _, _, h => by
    unfold RepV at h ⊢
    obtain ⟨a, c, ev, g, t, g2, t2, k⟩ := h
    refine ⟨a, c, ev, ((e _ _ t).2 g).1, ((e _ _ t).2 g).2, ((e _ _ t2).2 g2).1, ((e _ _ t2).2 g2).2, fun b o z => ?_⟩
    obtain ⟨⟨o1, h1⟩, h2⟩ := k b o z
    exact ⟨(e b o1 h1).1, fun n => (e b o (h2 n).2).2 (h2 n).1⟩
  | .exh _ _ _ _ _, _, h => by
    unfold RepV at h ⊢
    obtain ⟨ws, ev, g, t, n, r⟩ := h
    exact ⟨ws, ev, ((e _ _ t).2 g).1, ((e _ _ t).2 g).2, n, r.ext e⟩
theorem RepL.ext (e : Ext G H G' H') : ∀ {ds : List D} {xs : List V}, RepL K G H ds xs → RepL K G' H' ds xs
  | [], _, h => h
  | _ :: _, _, h => by
    unfold RepL at h ⊢
    obtain ⟨x, r, ev, h1, h2⟩ := h
    exact ⟨x, r, ev, h1.ext e, h2.ext e⟩
end
theorem RepO.ext (e : Ext G H G' H') {vs : List (Option D)} {ws : List (Option V)} (h : RepO K G H vs ws) : RepO K G' H' vs ws := ⟨h.1, fun i d q => by obtain ⟨v, h1, h2⟩ := h.2 i d q; exact ⟨v, h1, h2.ext e⟩⟩
theorem SltD.ext (e : Ext G H G' H') {a : Addr} {c : Str} {vs : List (Option D)} (h : SltD K G H a c vs) (ha : H' a = H a) : SltD K G' H' a c vs := by
  obtain ⟨dx, ws, g, h1, h2, r⟩ := h
  obtain ⟨g', e'⟩ := (e _ _ h2).2 g
  exact ⟨dx, ws, g', by rw [ha]; exact h1, e', r.ext e⟩
theorem NyD.ext (e : Ext G H G' H') {a : Addr} {w : World} {lk : Option Obj} {kvs : List (D × D)} (h : NyD K G H a w lk kvs) (ha : H' a = H a) : NyD K G' H' a w lk kvs := by
  obtain ⟨h0, q, h1, h2, h3, h4⟩ := h
  exact ⟨h0, q, ha.trans h1, h2, h3.ext e, h4.ext e⟩
theorem RepL.length : ∀ {ds : List D} {xs : List V}, RepL K G H ds xs → xs.length = ds.length
  | [], _, h => by unfold RepL at h; rw [h]; rfl
  | _ :: ds, _, h => by
    unfold RepL at h
    obtain ⟨x, r, rfl, _, h2⟩ := h
    simp [RepL.length h2]
theorem repL_nil : RepL K G H [] [] := by unfold RepL; rfl
theorem repL_cons {d : D} {ds : List D} {x : V} {xs : List V} (h : RepV K G H d x) (r : RepL K G H ds xs) : RepL K G H (d :: ds) (x :: xs) := by
  unfold RepL; exact ⟨x, xs, rfl, h, r⟩
theorem repL_one {d : D} {x : V} (h : RepV K G H d x) : RepL K G H [d] [x] := repL_cons h repL_nil
theorem RepL.append : ∀ {ds es : List D} {xs ys : List V}, RepL K G H ds xs → RepL K G H es ys → RepL K G H (ds ++ es) (xs ++ ys)
  | [], _, _, _, h, r => by unfold RepL at h; subst h; exact r
  | _ :: _, _, _, _, h, r => by
    unfold RepL at h
    obtain ⟨x, t, rfl, h1, h2⟩ := h
    exact repL_cons h1 (RepL.append h2 r)
theorem RepL.get : ∀ {ds : List D} {xs : List V} {i : Nat} {d : D}, RepL K G H ds xs → ds[i]? = some d → ∃ x, xs[i]? = some x ∧ RepV K G H d x
  | [], _, _, _, _, e => by simp at e
  | _ :: _, _, 0, _, h, e => by
    unfold RepL at h
    obtain ⟨x, t, rfl, h1, h2⟩ := h
    simp at e; subst e
    exact ⟨x, rfl, h1⟩
  | _ :: ds, _, i + 1, d, h, e => by
    unfold RepL at h
    obtain ⟨x, t, rfl, h1, h2⟩ := h
    obtain ⟨y, e1, e2⟩ := RepL.get (i := i) (d := d) h2 (by simpa using e)
    exact ⟨y, by simpa using e1, e2⟩
theorem RepL.get' : ∀ {ds : List D} {xs : List V} {i : Nat} {x : V}, RepL K G H ds xs → xs[i]? = some x → ∃ d, ds[i]? = some d ∧ RepV K G H d x
  | [], _, _, _, h, e => by unfold RepL at h; subst h; simp at e
  | _ :: _, _, 0, _, h, e => by
    unfold RepL at h
    obtain ⟨x, t, rfl, h1, h2⟩ := h
    simp at e; subst e
    exact ⟨_, rfl, h1⟩
  | _ :: ds, _, i + 1, d, h, e => by
    unfold RepL at h
    obtain ⟨x, t, rfl, h1, h2⟩ := h
    obtain ⟨y, e1, e2⟩ := RepL.get' (i := i) (x := d) h2 (by simpa using e)
    exact ⟨y, by simpa using e1, e2⟩
theorem RepL.take : ∀ {ds : List D} {xs : List V} (n : Nat), RepL K G H ds xs → RepL K G H (ds.take n) (xs.take n)
  | _, _, 0, _ => by simp [repL_nil]
  | [], _, _ + 1, h => by unfold RepL at h; subst h; simp [repL_nil]
  | _ :: _, _, n + 1, h => by
    unfold RepL at h
    obtain ⟨x, t, rfl, h1, h2⟩ := h
    exact repL_cons h1 (RepL.take n h2)
theorem RepL.drop : ∀ {ds : List D} {xs : List V} (n : Nat), RepL K G H ds xs → RepL K G H (ds.drop n) (xs.drop n)
  | _, _, 0, h => by simpa using h
  | [], _, _ + 1, h => by unfold RepL at h; subst h; simp [repL_nil]
  | _ :: _, _, n + 1, h => by
    unfold RepL at h
    obtain ⟨x, t, rfl, h1, h2⟩ := h
    exact RepL.drop n h2
theorem RepL.set {d : D} {x : V} (hd : RepV K G H d x) : ∀ {ds : List D} {xs : List V} (n : Nat), RepL K G H ds xs → RepL K G H (ds.set n d) (xs.set n x)
  | [], _, _, h => by unfold RepL at h; subst h; simp [repL_nil]
  | _ :: _, _, 0, h => by
    unfold RepL at h
    obtain ⟨x, t, rfl, h1, h2⟩ := h
    exact repL_cons hd h2
  | _ :: _, _, n + 1, h => by
    unfold RepL at h
    obtain ⟨x, t, rfl, h1, h2⟩ := h
    exact repL_cons h1 (RepL.set hd n h2)
theorem RepL.dropLast {ds : List D} {xs : List V} (h : RepL K G H ds xs) : RepL K G H ds.dropLast xs.dropLast := by
  rw [List.dropLast_eq_take, List.dropLast_eq_take, h.length]
  exact h.take _
theorem RepL.rep {ds : List D} {xs : List V} (h : RepL K G H ds xs) : ∀ k : Nat, RepL K G H (List.replicate k ds).flatten (List.replicate k xs).flatten
  | 0 => by simp [repL_nil]
  | k + 1 => by simp only [List.replicate_succ, List.flatten_cons]; exact h.append (RepL.rep h k)
theorem repL_ints : ∀ {ns : List Int} {xs : List V}, RepL K G H (ns.map D.int) xs → xs = ns.map V.int
  | [], _, h => by simpa [RepL] using h
  | n :: ns, _, h => by
    simp only [List.map_cons] at h
    unfold RepL at h
    obtain ⟨x, t, rfl, h1, h2⟩ := h
    unfold RepV at h1
    rw [h1, repL_ints h2]; rfl
theorem repL_of_ints : ∀ {ns : List Int}, RepL K G H (ns.map D.int) (ns.map V.int)
  | [] => repL_nil
  | n :: ns => repL_cons (by unfold RepV; rfl) repL_of_ints
theorem GOk.new (g : GOk K G H) {p : Addr} {o : HO} (h : H p = none) : GOk K G (upd H p o) := fun a u e => by
  have x := g a u e
  have ex : Ext G H G (upd H p o) := Ext.new h
  have n : a ≠ p := by obtain ⟨w, ew⟩ := x.there; exact ne_of_none ew h
  cases u with
  | lst ds => obtain ⟨xs, e1, r⟩ := x; exact ⟨xs, by rw [upd_ne n]; exact e1, r.ext ex⟩
  | dct kvs => obtain ⟨xs, e1, e2, r⟩ := x; exact ⟨xs, by rw [upd_ne n]; exact e1, e2, r.ext ex⟩
  | dtp kvs => obtain ⟨xs, e1, e2, r⟩ := x; exact ⟨xs, by rw [upd_ne n]; exact e1, e2, r.ext ex⟩
  | raw w => show upd H p o a = some w; rw [upd_ne n]; exact x
  | ins c fs => obtain ⟨dx, xs, e1, e2, r⟩ := x; exact ⟨dx, xs, by rw [upd_ne n]; exact e1, e2, r.ext ex⟩
  | tab q => exact TabD.ext ex x (upd_ne n)
  | slt c vs => exact SltD.ext ex x (upd_ne n)
  | dny w lk kvs => exact NyD.ext ex x (upd_ne n)
theorem GOk.put (g : GOk K G H) {p : Addr} {o : HO} {u : DO} (ex : Ext G H (updG G p u) (upd H p o)) (new : DOk K (updG G p u) (upd H p o) p u) : GOk K (updG G p u) (upd H p o) := fun a w e => by
  by_cases n : a = p
  · subst n
    rw [updG_same] at e; cases e
    exact new
  · rw [updG_ne n] at e
    have x := g a w e
    cases w with
    | lst ds => obtain ⟨xs, e1, r⟩ := x; exact ⟨xs, by rw [upd_ne n]; exact e1, r.ext ex⟩
    | dct kvs => obtain ⟨xs, e1, e2, r⟩ := x; exact ⟨xs, by rw [upd_ne n]; exact e1, e2, r.ext ex⟩
    | dtp kvs => obtain ⟨xs, e1, e2, r⟩ := x; exact ⟨xs, by rw [upd_ne n]; exact e1, e2, r.ext ex⟩
    | raw w => show upd H p o a = some w; rw [upd_ne n]; exact x
    | ins c fs => obtain ⟨dx, xs, e1, e2, r⟩ := x; exact ⟨dx, xs, by rw [upd_ne n]; exact e1, e2, r.ext ex⟩
    | tab q => exact TabD.ext ex x (upd_ne n)
    | slt c vs => exact SltD.ext ex x (upd_ne n)
    | dny w lk kvs => exact NyD.ext ex x (upd_ne n)
theorem GOk.drop (g : GOk K G H) {p : Addr} : GOk K (dropG G p) H := fun a w e => by
  by_cases n : a = p
  · subst n; rw [dropG_same] at e; cases e
  · rw [dropG_ne n] at e
    have ex : Ext G H (dropG G p) H := Ext.drop
    have x := g a w e
    cases w with
    | lst ds => obtain ⟨xs, e1, r⟩ := x; exact ⟨xs, e1, r.ext ex⟩
    | dct kvs => obtain ⟨xs, e1, e2, r⟩ := x; exact ⟨xs, e1, e2, r.ext ex⟩
    | dtp kvs => obtain ⟨xs, e1, e2, r⟩ := x; exact ⟨xs, e1, e2, r.ext ex⟩
    | raw w => exact x
    | ins c fs => obtain ⟨dx, xs, e1, e2, r⟩ := x; exact ⟨dx, xs, e1, e2, r.ext ex⟩
    | tab q => exact TabD.ext ex x rfl
    | slt c vs => exact SltD.ext ex x rfl
    | dny w lk kvs => exact NyD.ext ex x rfl
end
end Dl
namespace Dl
open PySem L2
abbrev DSt := List (Option D)
def sl : DSt → Nat → Option D
  | [], _ => none
  | x :: _, 0 => x
  | _ :: r, i + 1 => sl r i
theorem sl_get : ∀ {ρ : DSt} {i : Nat} {d : D}, sl ρ i = some d → ρ[i]? = some (some d)
  | [], _, _, h => by simp [sl] at h
  | _ :: _, 0, _, h => by simp [sl] at h; simp [h]
  | _ :: r, i + 1, d, h => by simp [sl] at h; simpa using sl_get h
structure DRel (K : PySem.W.Frag) (σ : St) (H : Hp) (ρ : DSt) (G : GH) : Prop where
  len : ρ.length = σ.length
  at_ : ∀ (i : Nat) (d : D), ρ[i]? = some (some d) → ∃ v, σ[i]? = some (some v) ∧ RepV K G H d v
  gok : GOk K G H
section
variable {K : PySem.W.Frag} {σ : St} {H H' : Hp} {ρ : DSt} {G G' : GH}
theorem DRel.ext (r : DRel K σ H ρ G) (e : Ext G H G' H') (g : GOk K G' H') : DRel K σ H' ρ G' :=
  ⟨r.len, fun i d h => let ⟨v, h1, h2⟩ := r.at_ i d h; ⟨v, h1, h2.ext e⟩, g⟩
theorem DRel.set (r : DRel K σ H ρ G) (i : Nat) {d : D} {v : V} (h : RepV K G H d v) : DRel K (σ.set i (some v)) H (ρ.set i (some d)) G := by
  refine ⟨by simp [r.len], fun j e hj => ?_, r.gok⟩
  by_cases q : i = j
  · subst q
    by_cases hl : i < ρ.length
    · rw [List.getElem?_set_self hl] at hj
      cases hj
      exact ⟨v, List.getElem?_set_self (by rw [← r.len]; exact hl), h⟩
    · rw [List.getElem?_eq_none (by simpa using hl)] at hj; cases hj
  · rw [List.getElem?_set_ne q] at hj
    obtain ⟨w, h1, h2⟩ := r.at_ j e hj
    exact ⟨w, by rw [List.getElem?_set_ne q]; exact h1, h2⟩
theorem DRel.sl (r : DRel K σ H ρ G) {i : Nat} {d : D} (h : Dl.sl ρ i = some d) : ∃ v, σ[i]? = some (some v) ∧ RepV K G H d v := r.at_ i d (sl_get h)
end
abbrev DK := D → GH → Prop
abbrev DTE := DSt → GH → DK → Prop
abbrev DTT := DSt → GH → (Bool → GH → Prop) → Prop
abbrev DTA := DSt → GH → (List D → GH → Prop) → Prop
structure DEnds where
  nx : DSt → GH → Prop
  rt : DK
  bk : DSt → GH → Prop := fun _ _ => False
  ct : DSt → GH → Prop := fun _ _ => False
abbrev DTS := DEnds → DSt → GH → Prop
abbrev DTG := D → DSt → GH → (DSt → GH → Prop) → Prop
abbrev DTGs := List D → DSt → GH → (DSt → GH → Prop) → Prop
def up (K : PySem.W.Frag) (t : DTE) : TE := fun σ H Qv => ∃ ρ G Q, DRel K σ H ρ G ∧ t ρ G Q ∧ ∀ v d H' G', Ext G H G' H' → DRel K σ H' ρ G' → RepV K G' H' d v → Q d G' → Qv v H'
def upT (K : PySem.W.Frag) (t : DTT) : TT := fun σ H Qv => ∃ ρ G Q, DRel K σ H ρ G ∧ t ρ G Q ∧ ∀ b H' G', Ext G H G' H' → DRel K σ H' ρ G' → Q b G' → Qv b H'
def upA (K : PySem.W.Frag) (t : DTA) : TA := fun σ H Qv => ∃ ρ G Q, DRel K σ H ρ G ∧ t ρ G Q ∧ ∀ vs ds H' G', Ext G H G' H' → DRel K σ H' ρ G' → RepL K G' H' ds vs → Q ds G' → Qv vs H'
def upS (K : PySem.W.Frag) (t : DTS) : TS := fun Dv σ H => ∃ (ρ : DSt) (G : GH) (E : DEnds), DRel K σ H ρ G ∧ t E ρ G ∧
  (∀ σ' ρ' H' G', Ext G H G' H' → DRel K σ' H' ρ' G' → E.nx ρ' G' → Dv.nx σ' H') ∧
  (∀ v d H' G', Ext G H G' H' → GOk K G' H' → RepV K G' H' d v → E.rt d G' → Dv.rt v H') ∧
  (∀ σ' ρ' H' G', Ext G H G' H' → DRel K σ' H' ρ' G' → E.bk ρ' G' → Dv.bk σ' H') ∧
  (∀ σ' ρ' H' G', Ext G H G' H' → DRel K σ' H' ρ' G' → E.ct ρ' G' → Dv.ct σ' H')
def upG (K : PySem.W.Frag) (g : DTG) : TG := fun v σ H Qv => ∃ ρ G d Q, DRel K σ H ρ G ∧ RepV K G H d v ∧ g d ρ G Q ∧ ∀ σ' ρ' H' G', Ext G H G' H' → DRel K σ' H' ρ' G' → Q ρ' G' → Qv σ' H'
def upGs (K : PySem.W.Frag) (g : DTGs) : TGs := fun vs σ H Qv => ∃ ρ G ds Q, DRel K σ H ρ G ∧ RepL K G H ds vs ∧ g ds ρ G Q ∧ ∀ σ' ρ' H' G', Ext G H G' H' → DRel K σ' H' ρ' G' → Q ρ' G' → Qv σ' H'
abbrev DE (X : Cx) (e : Expr) (t : DTE) : Prop := PE X e (up X.K t)
abbrev DT (X : Cx) (e : Expr) (t : DTT) : Prop := PT X e (upT X.K t)
abbrev DA (X : Cx) (es : List Expr) (t : DTA) : Prop := PA X es (upA X.K t)
abbrev DS (X : Cx) (st : Stmt) (t : DTS) : Prop := PS X st (upS X.K t)
abbrev DSs (X : Cx) (sts : List Stmt) (t : DTS) : Prop := PSs X sts (upS X.K t)
abbrev DG (X : Cx) (e : Expr) (t : DTG) : Prop := PG X e (upG X.K t)
abbrev DGs (X : Cx) (es : List Expr) (t : DTGs) : Prop := PGs X es (upGs X.K t)
section
variable {X : Cx}
theorem _root_.L2.PE.imp {e : Expr} {t t' : TE} (h : PE X e t) (i : ∀ σ H Q, t' σ H Q → t σ H Q) : PE X e t' := ⟨fun pins s σ H Q I q => h.run pins s σ H Q I (i σ H Q q)⟩
theorem _root_.L2.PT.imp {e : Expr} {t t' : TT} (h : PT X e t) (i : ∀ σ H Q, t' σ H Q → t σ H Q) : PT X e t' := ⟨fun pins s σ H Q I q => h.run pins s σ H Q I (i σ H Q q)⟩
theorem _root_.L2.PW.imp {e : Expr} {t t' : TT} (h : PW X e t) (i : ∀ σ H Q, t' σ H Q → t σ H Q) : PW X e t' := ⟨fun wh pins s σ H Q I q => h.run wh pins s σ H Q I (i σ H Q q)⟩
theorem _root_.L2.PA.imp {es : List Expr} {t t' : TA} (h : PA X es t) (i : ∀ σ H Q, t' σ H Q → t σ H Q) : PA X es t' := ⟨fun pos pins s σ H Q I q => h.run pos pins s σ H Q I (i σ H Q q)⟩
theorem _root_.L2.PS.imp {st : Stmt} {t t' : TS} (h : PS X st t) (i : ∀ D σ H, t' D σ H → t D σ H) : PS X st t' := ⟨fun pins s σ H D I q => h.run pins s σ H D I (i D σ H q)⟩
theorem _root_.L2.PSs.imp {st : List Stmt} {t t' : TS} (h : PSs X st t) (i : ∀ D σ H, t' D σ H → t D σ H) : PSs X st t' := ⟨fun pins s σ H D I q => h.run pins s σ H D I (i D σ H q)⟩
theorem _root_.L2.PG.imp {e : Expr} {t t' : TG} (h : PG X e t) (i : ∀ v σ H Q, t' v σ H Q → t v σ H Q) : PG X e t' := ⟨fun pins s σ H v u Q I r q => h.run pins s σ H v u Q I r (i v σ H Q q)⟩
theorem _root_.L2.PGs.imp {es : List Expr} {t t' : TGs} (h : PGs X es t) (i : ∀ v σ H Q, t' v σ H Q → t v σ H Q) : PGs X es t' := ⟨fun pins s σ H v u Q I r q => h.run pins s σ H v u Q I r (i v σ H Q q)⟩
@[simp] def dVar (i : Nat) : DTE := fun ρ G Q => match sl ρ i with
  | some d => Q d G
  | none => False
@[simp] def dC (d : D) : DTE := fun _ G Q => Q d G
theorem dVar_of {ρ : DSt} {G : GH} {Q : DK} {i : Nat} (h : dVar i ρ G Q) : ∃ d, sl ρ i = some d ∧ Q d G := by
  unfold dVar at h
  split at h
  · exact ⟨_, by assumption, h⟩
  · exact h.elim
theorem de_var {i : Nat} {x : Str} {pos : Pos} (hN : X.N[i]? = some x) (hv : Vis X.env.scope x) (hd : (x == ("__debug__" : Str)) = false := by decide) (hcd : (x == ("__classdict__" : Str)) = false := by decide) : DE X (.Name x pos) (dVar i) := by
  refine (pe_var hN hv hd hcd).imp fun σ H Q ⟨ρ, G, q, r, h, k⟩ => ?_
  obtain ⟨d, e, h⟩ := dVar_of h
  obtain ⟨v, e1, e2⟩ := r.sl e
  exact ⟨v, e1, k v d H G (Ext.refl G H) r e2 h⟩
theorem dv (i : Nat) {x : Str} {pos : Pos} (hN : X.N[i]? = some x := by rfl) (hv : Vis X.env.scope x := by first | exact Or.inl rfl | exact Or.inr (Or.inl rfl) | exact Or.inr (Or.inr rfl)) (hd : (x == ("__debug__" : Str)) = false := by decide)
    (hcd : (x == ("__classdict__" : Str)) = false := by decide) : DE X (.Name x pos) (dVar i) := de_var hN hv hd hcd
theorem de_c {e : Expr} {v : V} {d : D} (h : PE X e (tC v)) (r : ∀ G H, RepV X.K G H d v) : DE X e (dC d) :=
  h.imp fun σ H Q ⟨ρ, G, q, rel, h, k⟩ => k v d H G (Ext.refl G H) rel (r G H) h
theorem de_int {i j pos} : DE X (.Constant (.int i) j pos) (dC (.int i)) := de_c pe_int fun _ _ => by unfold RepV; rfl
theorem de_bl {b j pos} : DE X (.Constant (.bool b) j pos) (dC (.bl b)) := de_c pe_bl fun _ _ => by unfold RepV; rfl
theorem de_str {x j pos} : DE X (.Constant (.str x) j pos) (dC (.str x)) := de_c pe_str fun _ _ => by unfold RepV; rfl
def GlD (X : Cx) (x : Str) (d : D) : Prop := ∃ u, X.mg x = some u ∧ ∃ v, RelV v u ∧ ∀ G H, RepV X.K G H d v
theorem de_glob {x : Str} {d : D} {pos : Pos} (hg : Gl X x) (hm : GlD X x d) (hd : (x == ("__debug__" : Str)) = false := by decide) : DE X (.Name x pos) (dC d) := by
  obtain ⟨u, h1, v, h2, h3⟩ := hm
  exact de_c (pe_glob hg h1 h2 hd) h3
@[simp] def dNil : DTA := fun _ G Q => Q [] G
@[simp] def dCons (ta : DTE) (tr : DTA) : DTA := fun ρ G Q => ta ρ G fun x G1 => tr ρ G1 fun xs G2 => Q (x :: xs) G2
theorem da_nil : DA X [] dNil := (pa_nil (X := X)).imp fun σ H Q ⟨ρ, G, q, r, h, k⟩ => k [] [] H G (Ext.refl G H) r repL_nil h
theorem da_cons {e : Expr} {es : List Expr} {te : DTE} {t : DTA} (ha : DE X e te) (hr : DA X es t) (hs : starEach (e :: es) X.env = (false, eval e X.env) :: starEach es X.env := by rfl) : DA X (e :: es) (dCons te t) := by
  refine (pa_cons ha hr hs).imp fun σ H Q ⟨ρ, G, q, r, h, k⟩ => ?_
  refine ⟨ρ, G, _, r, h, fun v d H1 G1 e1 r1 v1 h1 => ?_⟩
  refine ⟨ρ, G1, _, r1, h1, fun vs ds H2 G2 e2 r2 v2 h2 => ?_⟩
  exact k (v :: vs) (d :: ds) H2 G2 (e1.trans e2) r2 (repL_cons (v1.ext e2) v2) h2
@[simp] def dTup (t : DTA) : DTE := fun ρ G Q => t ρ G fun xs G1 => xs.length ≤ sizeLine ∧ Q (.tup xs) G1
@[simp] def dLst (t : DTA) : DTE := fun ρ G Q => t ρ G fun xs G1 => xs.length ≤ sizeLine ∧ ∀ p, G1 p = none → Q (.ref p) (updG G1 p (.lst xs))
theorem DRel.newTup {K : PySem.W.Frag} {σ : St} {H : Hp} {ρ : DSt} {G : GH} {p : Addr} {ds : List D} {vs : List V} (r : DRel K σ H ρ G) (hp : H p = none) (hv : RepL K G H ds vs) :
    Ext G H G (upd H p (.tup vs)) ∧ DRel K σ (upd H p (.tup vs)) ρ G ∧ RepV K G (upd H p (.tup vs)) (.tup ds) (.ref p) := by
  have e : Ext G H G (upd H p (.tup vs)) := Ext.new hp
  refine ⟨e, r.ext e (r.gok.new hp), ?_⟩
  unfold RepV
  exact ⟨p, vs, rfl, .inl ⟨r.gok.fresh hp, upd_same⟩, hv.ext e⟩
theorem DRel.newLst {K : PySem.W.Frag} {σ : St} {H : Hp} {ρ : DSt} {G : GH} {p : Addr} {ds : List D} {vs : List V} (r : DRel K σ H ρ G) (hp : H p = none) (hv : RepL K G H ds vs) :
    Ext G H (updG G p (.lst ds)) (upd H p (.lst vs)) ∧ DRel K σ (upd H p (.lst vs)) ρ (updG G p (.lst ds)) ∧ RepV K (updG G p (.lst ds)) (upd H p (.lst vs)) (.ref p) (.ref p) := by
  have e : Ext G H (updG G p (.lst ds)) (upd H p (.lst vs)) := Ext.newG hp
  refine ⟨e, r.ext e (r.gok.put e ⟨vs, upd_same, hv.ext e⟩), by unfold RepV; rfl⟩
theorem de_tup {es : List Expr} {t : DTA} {x1} {pos : Pos} (h : DA X es t) : DE X (.Tuple es x1 pos) (dTup t) := by
  refine (pe_tup h).imp fun σ H Q ⟨ρ, G, q, r, h, k⟩ => ?_
  refine ⟨ρ, G, _, r, h, fun vs ds H1 G1 e1 r1 v1 ⟨z, h1⟩ => ⟨by rw [v1.length]; exact z, fun p hp => ?_⟩⟩
  obtain ⟨e2, r2, v2⟩ := r1.newTup hp v1
  exact k _ _ _ _ (e1.trans e2) r2 v2 h1
theorem de_lst {es : List Expr} {t : DTA} {pos : Pos} (h : DA X es t) : DE X (.List es pos) (dLst t) := by
  refine (pe_lst h).imp fun σ H Q ⟨ρ, G, q, r, h, k⟩ => ?_
  refine ⟨ρ, G, _, r, h, fun vs ds H1 G1 e1 r1 v1 ⟨z, h1⟩ => ⟨by rw [v1.length]; exact z, fun p hp => ?_⟩⟩
  obtain ⟨e2, r2, v2⟩ := r1.newLst hp v1
  exact k _ _ _ _ (e1.trans e2) r2 v2 (h1 p (r1.gok.fresh hp))
@[simp] def dFrz (t : DTE) : DTE := fun ρ G Q => t ρ G fun d G1 => match d with
  | .ref p => (match G1 p with
    | some (.lst ds) => Q (.lst ds) (dropG G1 p)
    | _ => Q (.ref p) G1)
  | d => Q d G1
theorem de_frz {e : Expr} {t : DTE} (h : DE X e t) : DE X e (dFrz t) := by
  refine PE.imp h fun σ H Q ⟨ρ, G, q, r, h, k⟩ => ?_
  refine ⟨ρ, G, _, r, h, fun v d H1 G1 e1 r1 v1 h1 => ?_⟩
  cases d with
  | ref p =>
    dsimp only at h1
    cases q : G1 p with
    | none => rw [q] at h1; exact k _ _ _ _ e1 r1 v1 h1
    | some o =>
      rw [q] at h1
      cases o with
      | lst ds =>
        dsimp only at h1
        obtain ⟨xs, hx, rx⟩ := r1.gok p _ q
        have e2 : Ext G1 H1 (dropG G1 p) H1 := Ext.drop
        refine k v (.lst ds) H1 (dropG G1 p) (e1.trans e2) (r1.ext e2 r1.gok.drop) ?_ h1
        unfold RepV at v1 ⊢
        exact ⟨p, xs, v1, ⟨dropG_same, hx⟩, rx.ext e2⟩
      | dct kvs => exact k _ _ _ _ e1 r1 v1 h1
      | raw o => exact k _ _ _ _ e1 r1 v1 h1
      | ins _ _ => exact k _ _ _ _ e1 r1 v1 h1
      | dtp _ => exact k _ _ _ _ e1 r1 v1 h1
      | tab _ => exact k _ _ _ _ e1 r1 v1 h1
      | slt _ _ => exact k _ _ _ _ e1 r1 v1 h1
      | dny _ _ _ => exact k _ _ _ _ e1 r1 v1 h1
  | _ => exact k _ _ _ _ e1 r1 v1 h1
abbrev DR2 := D → D → GH → DK → Prop
def upR (K : PySem.W.Frag) (r : DR2) : R2 := fun x y H Qv => ∃ (G : GH) (dx dy : D) (Q : DK), GOk K G H ∧ RepV K G H dx x ∧ RepV K G H dy y ∧ r dx dy G Q ∧ ∀ v d H' G', Ext G H G' H' → GOk K G' H' → RepV K G' H' d v → Q d G' → Qv v H'
abbrev DOp (X : Cx) (f : Value → Value → Sem Value) (r : DR2) : Prop := OpR X f (upR X.K r)
@[simp] def dOp (r : DR2) (ta tb : DTE) : DTE := fun ρ G Q => ta ρ G fun x G1 => tb ρ G1 fun y G2 => r x y G2 Q
theorem up_op {K : PySem.W.Frag} {r : DR2} {ta tb : DTE} {σ : St} {H : Hp} {Q : VK} (h : up K (dOp r ta tb) σ H Q) : tOp (upR K r) (up K ta) (up K tb) σ H Q := by
  obtain ⟨ρ, G, q, r0, h, k⟩ := h
  refine ⟨ρ, G, _, r0, h, fun x dx H1 G1 e1 r1 v1 h1 => ?_⟩
  refine ⟨ρ, G1, _, r1, h1, fun y dy H2 G2 e2 r2 v2 h2 => ?_⟩
  exact ⟨G2, dx, dy, q, r2.gok, v1.ext e2, v2, h2, fun v d H' G' e3 g3 v3 h3 => k v d H' G' ((e1.trans e2).trans e3) (r2.ext e3 g3) v3 h3⟩
theorem de_op {op : Operator} {r : DR2} {a b : Expr} {ta tb : DTE} {pos : Pos} (ho : DOp X (binaryOp op) r) (ha : DE X a ta) (hb : DE X b tb) : DE X (.BinOp a op b pos) (dOp r ta tb) :=
  (pe_op ho ha hb).imp fun _ _ _ h => up_op h
theorem de_cmp {op : CmpOp} {r : DR2} {a b : Expr} {ta tb : DTE} {pos : Pos} (ho : DOp X (compareOp op) r) (ha : DE X a ta) (hb : DE X b tb) (hm : behindInMarks op b = false) : DE X (.Compare a [op] [b] pos) (dOp r ta tb) :=
  (pe_cmpR ho ha hb hm).imp fun _ _ _ h => up_op h
@[simp] def dTst (t : DTE) : DTT := fun ρ G Q => t ρ G fun d G1 => match d with
  | .bl b => Q b G1
  | _ => False
theorem up_tst {K : PySem.W.Frag} {t : DTE} {σ : St} {H : Hp} {Q : Bool → Hp → Prop} (h : upT K (dTst t) σ H Q) : up K t σ H fun x H1 => ∃ k, x = .bl k ∧ Q k H1 := by
  obtain ⟨ρ, G, q, r0, h, k⟩ := h
  refine ⟨ρ, G, _, r0, h, fun x dx H1 G1 e1 r1 v1 h1 => ?_⟩
  cases dx with
  | bl b => unfold RepV at v1; exact ⟨b, v1, k b H1 G1 e1 r1 h1⟩
  | _ => exact h1.elim
theorem dt_cmp {op : CmpOp} {r : DR2} {a b : Expr} {ta tb : DTE} {pos : Pos} (ho : DOp X (compareOp op) r) (ha : DE X a ta) (hb : DE X b tb) (hm : behindInMarks op b = false) : DT X (.Compare a [op] [b] pos) (dTst (dOp r ta tb)) := by
  refine (pt_cmpR ho ha hb hm).imp fun σ H Q h => ?_
  exact up_op (up_tst h)
end
end Dl
namespace Dl
open PySem L2
section
variable {X : Cx}
@[simp] def dAnd (t u : DTT) : DTT := fun ρ G Q => t ρ G fun c G1 => if c = true then u ρ G1 Q else Q false G1
@[simp] def dOr (t u : DTT) : DTT := fun ρ G Q => t ρ G fun c G1 => if c = true then Q true G1 else u ρ G1 Q
@[simp] def dNot (t : DTT) : DTT := fun ρ G Q => t ρ G fun c G1 => Q (!c) G1
theorem up_and {K : PySem.W.Frag} {t u : DTT} {σ : St} {H : Hp} {Q : Bool → Hp → Prop} (h : upT K (dAnd t u) σ H Q) : tAnd (upT K t) (upT K u) σ H Q := by
  obtain ⟨ρ, G, q, r, h, k⟩ := h
  refine ⟨ρ, G, _, r, h, fun b H1 G1 e1 r1 h1 => ?_⟩
  cases b with
  | true => exact ⟨ρ, G1, q, r1, h1, fun b H' G' e r h => k b H' G' (e1.trans e) r h⟩
  | false => exact k false H1 G1 e1 r1 h1
theorem up_or {K : PySem.W.Frag} {t u : DTT} {σ : St} {H : Hp} {Q : Bool → Hp → Prop} (h : upT K (dOr t u) σ H Q) : tOr (upT K t) (upT K u) σ H Q := by
  obtain ⟨ρ, G, q, r, h, k⟩ := h
  refine ⟨ρ, G, _, r, h, fun b H1 G1 e1 r1 h1 => ?_⟩
  cases b with
  | false => exact ⟨ρ, G1, q, r1, h1, fun b H' G' e r h => k b H' G' (e1.trans e) r h⟩
  | true => exact k true H1 G1 e1 r1 h1
abbrev DW (X : Cx) (e : Expr) (t : DTT) : Prop := PW X e (upT X.K t)
theorem dw_and1 {a : Expr} {t : DTT} {pos : Pos} (h : DT X a t) : DW X (.BoolOp .And [a] pos) t := pw_and1 h
theorem dw_or1 {a : Expr} {t : DTT} {pos : Pos} (h : DT X a t) : DW X (.BoolOp .Or [a] pos) t := pw_or1 h
theorem dw_and {a b : Expr} {rest : List Expr} {t u : DTT} {pos : Pos} (h : DT X a t) (hb : DW X (.BoolOp .And (b :: rest) pos) u) : DW X (.BoolOp .And (a :: b :: rest) pos) (dAnd t u) := (pw_and h hb).imp fun _ _ _ h => up_and h
theorem dw_or {a b : Expr} {rest : List Expr} {t u : DTT} {pos : Pos} (h : DT X a t) (hb : DW X (.BoolOp .Or (b :: rest) pos) u) : DW X (.BoolOp .Or (a :: b :: rest) pos) (dOr t u) := (pw_or h hb).imp fun _ _ _ h => up_or h
theorem dt_w {e : Expr} {t : DTT} (h : DW X e t) : DT X e t := h.pt
theorem dt_not {a : Expr} {t : DTT} {pos : Pos} (h : DT X a t) : DT X (.UnaryOp .Not a pos) (dNot t) := by
  refine PT.imp (pt_not h) fun σ H Q ⟨ρ, G, q, r, h, k⟩ => ?_
  exact ⟨ρ, G, _, r, h, fun b H1 G1 e1 r1 h1 => k (!b) H1 G1 e1 r1 h1⟩
@[simp] def dAndV (ta tb : DTE) : DTE := fun ρ G Q => ta ρ G fun x G1 => match x with
  | .bl true => tb ρ G1 Q
  | .bl false => Q (.bl false) G1
  | _ => False
theorem de_one {op : BoolOp} {a : Expr} {t : DTE} {pos : Pos} (h : DE X a t) : DE X (.BoolOp op [a] pos) t := pe_one h
theorem de_and {a b : Expr} {rest : List Expr} {ta tb : DTE} {pos : Pos} (h : DE X a ta) (hb : DE X (.BoolOp .And (b :: rest) pos) tb) : DE X (.BoolOp .And (a :: b :: rest) pos) (dAndV ta tb) := by
  refine (pe_and h hb).imp fun σ H Q ⟨ρ, G, q, r, h, k⟩ => ?_
  refine ⟨ρ, G, _, r, h, fun v d H1 G1 e1 r1 v1 h1 => ?_⟩
  cases d with
  | bl c =>
    unfold RepV at v1
    refine ⟨c, v1, ?_⟩
    cases c with
    | true => exact ⟨ρ, G1, q, r1, h1, fun v d H' G' e r v' h => k v d H' G' (e1.trans e) r v' h⟩
    | false => exact k _ (.bl false) H1 G1 e1 r1 (by unfold RepV; rfl) h1
  | _ => exact h1.elim
@[simp] def dNotV (ta : DTE) : DTE := fun ρ G Q => ta ρ G fun x G1 => match x with
  | .bl c => Q (.bl (!c)) G1
  | _ => False
theorem de_not {a : Expr} {ta : DTE} {pos : Pos} (h : DE X a ta) : DE X (.UnaryOp .Not a pos) (dNotV ta) := by
  refine PE.imp (pe_not h) fun σ H Q ⟨ρ, G, q, r, h, k⟩ => ?_
  refine ⟨ρ, G, _, r, h, fun v d H1 G1 e1 r1 v1 h1 => ?_⟩
  cases d with
  | bl c =>
    unfold RepV at v1
    exact ⟨c, v1, k _ (.bl (!c)) H1 G1 e1 r1 (by unfold RepV; rfl) h1⟩
  | _ => exact h1.elim
@[simp] def dIf (c : DTT) (ta tb : DTE) : DTE := fun ρ G Q => c ρ G fun b G1 => if b = true then ta ρ G1 Q else tb ρ G1 Q
theorem de_if {c a b : Expr} {tc : DTT} {ta tb : DTE} {pos : Pos} (hc : DT X c tc) (ha : DE X a ta) (hb : DE X b tb) : DE X (.IfExp c a b pos) (dIf tc ta tb) := by
  refine (pe_ifExp hc ha hb).imp fun σ H Q ⟨ρ, G, q, r, h, k⟩ => ?_
  refine ⟨ρ, G, _, r, h, fun b H1 G1 e1 r1 h1 => ?_⟩
  cases b with
  | true => exact ⟨ρ, G1, q, r1, h1, fun v d H' G' e r v' h => k v d H' G' (e1.trans e) r v' h⟩
  | false => exact ⟨ρ, G1, q, r1, h1, fun v d H' G' e r v' h => k v d H' G' (e1.trans e) r v' h⟩
@[simp] def dNext : DTS := fun E ρ G => E.nx ρ G
@[simp] def dSeq (t u : DTS) : DTS := fun E ρ G => t { E with nx := u E } ρ G
theorem ds_nil : DSs X [] dNext := (pss_nil (X := X)).imp fun D σ H ⟨ρ, G, E, r, h, k1, _⟩ => k1 σ ρ H G (Ext.refl G H) r h
theorem ds_one {st : Stmt} {t : DTS} (h : DS X st t) : DSs X [st] t := pss_one h
theorem ds_cons {st : Stmt} {rest : List Stmt} {t u : DTS} (h : DS X st t) (h2 : DSs X rest u) : DSs X (st :: rest) (dSeq t u) := by
  refine (pss_cons h h2).imp fun D σ H ⟨ρ, G, E, r, h, k1, k2, k3, k4⟩ => ?_
  refine ⟨ρ, G, { E with nx := u E }, r, h, fun σ' ρ' H' G' e r' h' => ?_, k2, k3, k4⟩
  exact ⟨ρ', G', E, r', h', fun a b c d e' => k1 a b c d (e.trans e'), fun a b c d e' => k2 a b c d (e.trans e'), fun a b c d e' => k3 a b c d (e.trans e'), fun a b c d e' => k4 a b c d (e.trans e')⟩
@[simp] def dDrop (te : DTE) : DTS := fun E ρ G => te ρ G fun _ G1 => E.nx ρ G1
theorem ds_expr {e : Expr} {te : DTE} {pos : Pos} (he : DE X e te) (hs : swapsWith e none pos.line X.env = pure false := by rfl) : DS X (.Expr e pos) (dDrop te) := by
  refine (ps_expr he hs).imp fun D σ H ⟨ρ, G, E, r, h, k1, _⟩ => ?_
  exact ⟨ρ, G, _, r, h, fun v d H' G' e r' v' h' => k1 σ ρ H' G' e r' h'⟩
@[simp] def dRet (te : DTE) : DTS := fun E ρ G => te ρ G E.rt
theorem ds_ret {e : Expr} {te : DTE} {pos : Pos} (he : DE X e te) : DS X (.Return (some e) pos) (dRet te) := by
  refine (ps_ret he).imp fun D σ H ⟨ρ, G, E, r, h, _, k2, _⟩ => ?_
  exact ⟨ρ, G, _, r, h, fun v d H' G' e r' v' h' => k2 v d H' G' e r'.gok v' h'⟩
@[simp] def dIfS (c : DTT) (t u : DTS) : DTS := fun E ρ G => c ρ G fun b G1 => if b = true then t E ρ G1 else u E ρ G1
theorem upS_ext {K : PySem.W.Frag} {t : DTS} {Dv : Ends} {σ : St} {H H1 : Hp} {ρ : DSt} {G G1 : GH} {E : DEnds} (e : Ext G H G1 H1) (r1 : DRel K σ H1 ρ G1) (h : t E ρ G1)
    (k1 : ∀ σ' ρ' H' G', Ext G H G' H' → DRel K σ' H' ρ' G' → E.nx ρ' G' → Dv.nx σ' H')
    (k2 : ∀ v d H' G', Ext G H G' H' → GOk K G' H' → RepV K G' H' d v → E.rt d G' → Dv.rt v H')
    (k3 : ∀ σ' ρ' H' G', Ext G H G' H' → DRel K σ' H' ρ' G' → E.bk ρ' G' → Dv.bk σ' H')
    (k4 : ∀ σ' ρ' H' G', Ext G H G' H' → DRel K σ' H' ρ' G' → E.ct ρ' G' → Dv.ct σ' H') : upS K t Dv σ H1 :=
  ⟨ρ, G1, E, r1, h, fun a b c d e' => k1 a b c d (e.trans e'), fun a b c d e' => k2 a b c d (e.trans e'), fun a b c d e' => k3 a b c d (e.trans e'), fun a b c d e' => k4 a b c d (e.trans e')⟩
theorem ds_if {c : Expr} {a b : List Stmt} {tc : DTT} {t u : DTS} {pos : Pos} (hc : DT X c tc) (ha : DSs X a t) (hb : DSs X b u) : DS X (.If c a b pos) (dIfS tc t u) := by
  refine (ps_if hc ha hb).imp fun D σ H ⟨ρ, G, E, r, h, k1, k2, k3, k4⟩ => ?_
  refine ⟨ρ, G, _, r, h, fun b H1 G1 e1 r1 h1 => ?_⟩
  cases b with
  | true => exact upS_ext e1 r1 h1 k1 k2 k3 k4
  | false => exact upS_ext e1 r1 h1 k1 k2 k3 k4
@[simp] def gNm (i : Nat) : DTG := fun d ρ G Q => Q (ρ.set i (some d)) G
theorem dg_name {i : Nat} {x : Str} {pos : Pos} (hN : X.N.Nodup) (hi : X.N[i]? = some x) (hx : Loc X.env.scope x) (hf : X.fn x = true ∨ X.env.scope.names.lookup x = some .local := by first | exact .inl rfl | exact .inr rfl | assumption) : DG X (.Name x pos) (gNm i) :=
  (pg_name hN hi hx hf).imp fun v σ H Q ⟨ρ, G, d, q, r, rv, h, k⟩ => k _ _ H G (Ext.refl G H) (r.set i rv) h
@[simp] def gsNil : DTGs := fun ds ρ G Q => match ds with
  | [] => Q ρ G
  | _ => False
@[simp] def gsCons (t : DTG) (u : DTGs) : DTGs := fun ds ρ G Q => match ds with
  | d :: r => t d ρ G fun ρ' G' => u r ρ' G' Q
  | [] => False
theorem dgs_nil : DGs X [] gsNil := (pgs_nil (X := X)).imp fun v σ H Q ⟨ρ, G, ds, q, r, rv, h, k⟩ => by
  cases ds with
  | nil => unfold RepL at rv; exact ⟨rv, k σ ρ H G (Ext.refl G H) r h⟩
  | cons d ds => exact h.elim
theorem dgs_cons {e : Expr} {es : List Expr} {t : DTG} {u : DTGs} (h1 : DG X e t) (h2 : DGs X es u)
    (hs : (assignEach (e :: es) X.env).map (·.2) = assign e X.env :: (assignEach es X.env).map (·.2) := by rfl) : DGs X (e :: es) (gsCons t u) :=
  (pgs_cons h1 h2 hs).imp fun v σ H Q ⟨ρ, G, ds, q, r, rv, h, k⟩ => by
    cases ds with
    | nil => exact h.elim
    | cons d ds =>
      unfold RepL at rv
      obtain ⟨x, xs, rfl, hx, hxs⟩ := rv
      refine ⟨x, xs, rfl, ρ, G, d, _, r, hx, h, fun σ' ρ' H' G' e r' h' => ?_⟩
      exact ⟨ρ', G', ds, q, r', hxs.ext e, h', fun a b c d e' => k a b c d (e.trans e')⟩
@[simp] def gTp (n : Nat) (t : DTGs) : DTG := fun d ρ G Q => match d with
  | .tup xs => xs.length = n ∧ t xs ρ G Q
  | _ => False
theorem dg_tup {es : List Expr} {k : Nat} {t : DTGs} {n : Nat} {pos : Pos} (hc : X.calm = true) (h : DGs X es t)
    (hn : (assignEach es X.env).length = n := by rfl) (hst : (assignEach es X.env).findIdx? (·.1) = none := by rfl) : DG X (.Tuple es k pos) (gTp n t) :=
  (pg_tup hc h hn hst).imp fun v σ H Q ⟨ρ, G, d, q, r, rv, h, k⟩ => by
    cases d with
    | tup ds =>
      unfold RepV at rv
      obtain ⟨a, xs, rfl, ta, rl⟩ := rv
      exact ⟨a, xs, rfl, ta.sq, by rw [rl.length]; exact h.1, ρ, G, ds, q, r, rl, h.2, k⟩
    | _ => exact h.elim
abbrev DSet := D → D → D → GH → (GH → Prop) → Prop
def upSet (K : PySem.W.Frag) (t : DSet) : TSet := fun o i v H Qv => ∃ (G : GH) (dO di d : D) (Q : GH → Prop), GOk K G H ∧ RepV K G H dO o ∧ RepV K G H di i ∧ RepV K G H d v ∧ t dO di d G Q ∧ ∀ H' G', Ext G H G' H' → GOk K G' H' → Q G' → Qv H'
@[simp] def gSb (to ti : DTE) (t : DSet) : DTG := fun d ρ G Q => to ρ G fun o G1 => ti ρ G1 fun i G2 => t o i d G2 fun G3 => Q ρ G3
theorem dg_sub {o i : Expr} {to ti : DTE} {t : DSet} {pos : Pos} (ho : DE X o to) (hi : DE X i ti) (hs : PSet X (upSet X.K t))
    (ha : ∀ v, assign (.Subscript o i pos) X.env v = (do
      let ov ← holding [v] (eval o X.env)
      let iv ← holding [v, ov] (eval i X.env)
      standAt pos
      holding [v, ov, iv] (setItem ov iv v)
      release [v, ov, iv] []) := by intro _; rfl) : DG X (.Subscript o i pos) (gSb to ti t) :=
  (pg_sub ho hi hs ha).imp fun v σ H Q ⟨ρ, G, d, q, r, rv, h, k⟩ => by
    refine ⟨ρ, G, _, r, h, fun ov od H1 G1 e1 r1 v1 h1 => ?_⟩
    refine ⟨ρ, G1, _, r1, h1, fun iv idd H2 G2 e2 r2 v2 h2 => ?_⟩
    refine ⟨G2, od, idd, d, _, r2.gok, v1.ext e2, v2, rv.ext (e1.trans e2), h2, fun H' G' e3 g3 h3 => ?_⟩
    exact k σ ρ H' G' ((e1.trans e2).trans e3) (r2.ext e3 g3) h3
@[simp] def dAsg (te : DTE) (g : DTG) : DTS := fun E ρ G => te ρ G fun x G1 => g x ρ G1 E.nx
theorem up_asg {K : PySem.W.Frag} {te : DTE} {g : DTG} {D : Ends} {σ : St} {H : Hp} (h : upS K (dAsg te g) D σ H) : tAsg (up K te) (upG K g) D σ H := by
  obtain ⟨ρ, G, E, r, h, k1, k2, k3, k4⟩ := h
  refine ⟨ρ, G, _, r, h, fun v d H1 G1 e1 r1 v1 h1 => ?_⟩
  exact ⟨ρ, G1, d, _, r1, v1, h1, fun a b c d e' => k1 a b c d (e1.trans e')⟩
theorem ds_asg {tg e : Expr} {te : DTE} {g : DTG} {pos : Pos} (he : DE X e te) (hg : DG X tg g) (hs : swapsWithSole [tg] e pos.line X.env = pure false := by rfl) (hw : swappedStores [tg] e X.env = pure none := by rfl)
    (h1 : (assignEach [tg] X.env).map (·.2) = [assign tg X.env] := by rfl) : DS X (.Assign [tg] e pos) (dAsg te g) := (ps_asg he hg hs hw h1).imp fun _ _ _ h => up_asg h
theorem ds_set {i : Nat} {x : Str} {e : Expr} {te : DTE} {pos pos' : Pos} (hN : X.N.Nodup) (hi : X.N[i]? = some x) (hx : Loc X.env.scope x) (he : DE X e te) (hs : swapsWith e (some (.Name x pos')) pos.line X.env = pure false := by rfl) (hf : X.fn x = true ∨ X.env.scope.names.lookup x = some .local := by first | exact .inl rfl | exact .inr rfl | assumption) :
    DS X (.Assign [.Name x pos'] e pos) (dAsg te (gNm i)) := by
  refine (ps_set hN hi hx he hs hf).imp fun D σ H ⟨ρ, G, E, r, h, k1, k2, k3, k4⟩ => ?_
  refine ⟨ρ, G, _, r, h, fun v d H1 G1 e1 r1 v1 h1 => ?_⟩
  exact k1 _ _ H1 G1 e1 (r1.set i v1) h1
@[simp] def dPar (i j : Nat) (ta : DTA) : DTS := fun E ρ G => ta ρ G fun ds G1 => match ds with
  | [v, w] => E.nx ((ρ.set i (some v)).set j (some w)) G1
  | _ => False
theorem ds_par {i j : Nat} {x y : Str} {a b : Expr} {ta : DTA} {px py pt pos : Pos} {kt k2 pt2} (hc : X.calm = true) (hN : X.N.Nodup) (hi : X.N[i]? = some x) (hj : X.N[j]? = some y) (hij : i ≠ j)
    (hx : X.env.scope.names.lookup x = some .local) (hy : X.env.scope.names.lookup y = some .local) (ha : DA X [a, b] ta)
    (hw : swappedStores [.Tuple [.Name x px, .Name y py] kt pt] (.Tuple [a, b] k2 pt2) X.env = pure (some [x, y]))
    (hs : swapsWithSole [.Tuple [.Name x px, .Name y py] kt pt] (.Tuple [a, b] k2 pt2) pos.line X.env = pure false := by rfl) :
    DS X (.Assign [.Tuple [.Name x px, .Name y py] kt pt] (.Tuple [a, b] k2 pt2) pos) (dPar i j ta) := by
  refine (ps_par hc hN hi hj hij hx hy ha hw hs).imp fun D σ H ⟨ρ, G, E, r, h, k1, k2, k3, k4⟩ => ?_
  refine ⟨ρ, G, _, r, h, fun vs ds H1 G1 e1 r1 v1 h1 => ?_⟩
  match ds, h1 with
  | [v, w], h1 =>
    unfold RepL at v1
    obtain ⟨x1, t1, rfl, y1, v1⟩ := v1
    unfold RepL at v1
    obtain ⟨x2, t2, rfl, y2, v1⟩ := v1
    unfold RepL at v1
    subst v1
    exact ⟨x1, x2, rfl, k1 _ _ H1 G1 e1 ((r1.set i y1).set j y2) h1⟩
  | [], h1 => exact h1.elim
  | [_], h1 => exact h1.elim
  | _ :: _ :: _ :: _, h1 => exact h1.elim
def dWhileGo (c : DTT) (tb : DTS) : Nat → DTS
  | 0, _, _, _ => False
  | n + 1, E, ρ, G => c ρ G fun b G1 => if b = true then tb { E with nx := dWhileGo c tb n E, ct := dWhileGo c tb n E, bk := E.nx } ρ G1 else E.nx ρ G1
def dWhile (c : DTT) (tb : DTS) : DTS := fun E ρ G => ∃ n, dWhileGo c tb n E ρ G
theorem ds_while {c : Expr} {body : List Stmt} {tc : DTT} {tb : DTS} {pos : Pos} (hp : PassesOwn (model X.prog X.w) X.A X.env X.xe) (hc : DT X c tc) (hb : DSs X body tb) : DS X (.While c body [] pos) (dWhile tc tb) := by
  refine (ps_while hp hc hb).imp fun D σ H ⟨ρ, G, E, r, ⟨n, h⟩, k1, k2, k3, k4⟩ => ?_
  refine ⟨fun m σ1 H1 => ∃ ρ1 G1, Ext G H G1 H1 ∧ DRel X.K σ1 H1 ρ1 G1 ∧ dWhileGo tc tb m E ρ1 G1, ⟨n, ρ, G, Ext.refl G H, r, h⟩, ?_⟩
  rintro m σ1 H1 ⟨ρ1, G1, e1, r1, h1⟩
  cases m with
  | zero => exact h1.elim
  | succ m =>
    unfold dWhileGo at h1
    refine ⟨ρ1, G1, _, r1, h1, fun b H2 G2 e2 r2 h2 => ?_⟩
    cases b with
    | false => exact k1 σ1 ρ1 H2 G2 (e1.trans e2) r2 h2
    | true =>
      refine ⟨fun σ3 H3 => ∃ ρ3 G3, Ext G H G3 H3 ∧ DRel X.K σ3 H3 ρ3 G3 ∧ dWhileGo tc tb m E ρ3 G3, fun σ3 H3 q => ⟨m, Nat.lt_succ_self m, q⟩, ?_⟩
      refine ⟨ρ1, G2, _, r2, h2, ?_, ?_, ?_, ?_⟩
      · exact fun σ' ρ' H' G' e' r' h' => ⟨ρ', G', (e1.trans e2).trans e', r', h'⟩
      · exact fun v d H' G' e' => k2 v d H' G' ((e1.trans e2).trans e')
      · exact fun σ' ρ' H' G' e' r' h' => k1 σ' ρ' H' G' ((e1.trans e2).trans e') r' h'
      · exact fun σ' ρ' H' G' e' r' h' => ⟨ρ', G', (e1.trans e2).trans e', r', h'⟩
def DIt (K : PySem.W.Frag) (J : It) (items : List D) (ok : GH → Prop) (G0 : GH) (H0 : Hp) : Prop :=
  ∀ G H, Ext G0 H0 G H → GOk K G H → ok G → ∀ i, (∀ d, items[i]? = some d → J.go i H ∧ ∀ x H1, J.yld i H x H1 → Ext G H G H1 ∧ GOk K G H1 ∧ RepV K G H1 d x) ∧ (i = items.length → J.stop i H)
abbrev DTI := DSt → GH → (List D → (GH → Prop) → GH → Prop) → Prop
def upI (K : PySem.W.Frag) (t : DTI) : TI := fun σ H R => ∃ ρ G Q, DRel K σ H ρ G ∧ t ρ G Q ∧ ∀ J items ok H' G', Ext G H G' H' → DRel K σ H' ρ G' → DIt K J items ok G' H' → Q items ok G' → R J H'
abbrev DI (X : Cx) (tg iter : Expr) (t : DTI) : Prop := PI X tg iter (upI X.K t)
theorem _root_.L2.PI.imp {tg iter : Expr} {t t' : TI} (h : PI X tg iter t) (i : ∀ σ H R, t' σ H R → t σ H R) : PI X tg iter t' := ⟨fun pins s σ H R I q => h.run pins s σ H R I (i σ H R q)⟩
def okAll : GH → Prop := fun _ => True
def rngD (lo : Int) (n : Nat) : List D := (List.range n).map fun i => D.int (lo + (i : Nat))
theorem dit_range {K : PySem.W.Frag} {lo : Int} {n : Nat} {G0 : GH} {H0 : Hp} : DIt K (Itr lo n) (rngD lo n) okAll G0 H0 := fun G H e g _ i => by
  refine ⟨fun d hd => ?_, fun hi => ?_⟩
  · unfold rngD at hd
    rw [List.getElem?_map] at hd
    by_cases hi : i < n
    · rw [List.getElem?_range hi] at hd
      simp at hd
      subst hd
      refine ⟨hi, fun x H1 hx => ?_⟩
      obtain ⟨rfl, rfl⟩ := hx
      exact ⟨Ext.refl _ _, g, by unfold RepV; rfl⟩
    · rw [List.getElem?_eq_none (by simpa using hi)] at hd
      simp at hd
  · unfold rngD at hi
    show n ≤ i
    simp at hi
    omega
@[simp] def iRg1 (t : DTA) : DTI := fun ρ G Q => t ρ G fun ds G1 => match ds with
  | [.int j] => -(2 ^ 62) ≤ j ∧ j < 2 ^ 62 ∧ Q (rngD 0 j.toNat) okAll G1
  | _ => False
@[simp] def iRg2 (t : DTA) : DTI := fun ρ G Q => t ρ G fun ds G1 => match ds with
  | [.int i, .int j] => (-(2 ^ 62) ≤ i ∧ i < 2 ^ 62 ∧ -(2 ^ 62) ≤ j ∧ j < 2 ^ 62) ∧ Q (rngD i (j - i).toNat) okAll G1
  | _ => False
theorem di_range1 {tg a : Expr} {t : DTA} {p pos : Pos} (hg : Gl X "range") (hm : X.mg "range" = none) (ha : DA X [a] t) (hs : starEach [a] X.env = [(false, eval a X.env)] := by rfl) : DI X tg (.Call (.Name "range" p) [a] [] pos) (iRg1 t) := by
  refine (pi_range1 hg hm ha hs).imp fun σ H R ⟨ρ, G, q, r, h, k⟩ => ?_
  refine ⟨ρ, G, _, r, h, fun vs ds H1 G1 e1 r1 v1 h1 => ?_⟩
  match ds, h1 with
  | [.int j], h1 =>
    unfold RepL at v1
    obtain ⟨x1, t1, rfl, y1, v1⟩ := v1
    unfold RepL at v1
    subst v1
    unfold RepV at y1
    subst y1
    exact ⟨j, rfl, h1.1, h1.2.1, k _ _ _ H1 G1 e1 r1 dit_range h1.2.2⟩
theorem di_range2 {tg a b : Expr} {t : DTA} {p pos : Pos} (hg : Gl X "range") (hm : X.mg "range" = none) (ha : DA X [a, b] t) (hs : starEach [a, b] X.env = [(false, eval a X.env), (false, eval b X.env)] := by rfl) (hs2 : starEach [b] X.env = [(false, eval b X.env)] := by rfl) :
    DI X tg (.Call (.Name "range" p) [a, b] [] pos) (iRg2 t) := by
  refine (pi_range2 hg hm ha hs hs2).imp fun σ H R ⟨ρ, G, q, r, h, k⟩ => ?_
  refine ⟨ρ, G, _, r, h, fun vs ds H1 G1 e1 r1 v1 h1 => ?_⟩
  match ds, h1 with
  | [.int i, .int j], h1 =>
    unfold RepL at v1
    obtain ⟨x1, t1, rfl, y1, v1⟩ := v1
    unfold RepL at v1
    obtain ⟨x2, t2, rfl, y2, v1⟩ := v1
    unfold RepL at v1
    subst v1
    unfold RepV at y1 y2
    subst y1 y2
    exact ⟨i, j, rfl, h1.1, k _ _ _ H1 G1 e1 r1 dit_range h1.2⟩
def dForGo (ok : GH → Prop) (g : DTG) (tb : DTS) : List D → DTS
  | [], E, ρ, G => ok G ∧ E.nx ρ G
  | x :: xs, E, ρ, G => ok G ∧ g x ρ G fun ρ2 G2 => tb { E with nx := dForGo ok g tb xs E, ct := dForGo ok g tb xs E, bk := E.nx } ρ2 G2
def dFor (wi : DTI) (g : DTG) (tb : DTS) : DTS := fun E ρ G => wi ρ G fun items ok G1 => dForGo ok g tb items E ρ G1
theorem ds_for {tg iter : Expr} {body : List Stmt} {wi : DTI} {g : DTG} {tb : DTS} {pos : Pos} (hp : PassesOwn (model X.prog X.w) X.A X.env X.xe) (hc : X.calm = true) (hi : DI X tg iter wi) (hg : DG X tg g) (hb : DSs X body tb)
    (hs : ∀ x, foldedSetIterable iter X.env x = pure x := by intro _; rfl) : DS X (.For tg iter body [] pos) (dFor wi g tb) := by
  refine (ps_for hp hc hi hg hb hs).imp fun D σ H ⟨ρ, G, E, r, h, k1, k2, k3, k4⟩ => ?_
  refine ⟨ρ, G, _, r, h, fun J items ok H1 G1 e1 r1 it h1 => ?_⟩
  refine ⟨fun i m σ2 H2 => m = items.length - i ∧ i ≤ items.length ∧ ∃ ρ2 G2, Ext G1 H1 G2 H2 ∧ DRel X.K σ2 H2 ρ2 G2 ∧ dForGo ok g tb (items.drop i) E ρ2 G2, ⟨items.length, rfl, Nat.zero_le _, ρ, G1, Ext.refl _ _, r1, h1⟩, ?_⟩
  rintro i m σ2 H2 ⟨rfl, hi, ρ2, G2, e2, r2, h2⟩
  by_cases hlt : i < items.length
  · rw [List.drop_eq_getElem_cons hlt] at h2
    unfold dForGo at h2
    obtain ⟨ho, h2⟩ := h2
    obtain ⟨a, b⟩ := it G2 H2 e2 r2.gok ho i
    obtain ⟨go, yl⟩ := a items[i] (List.getElem?_eq_getElem hlt)
    refine .inr ⟨go, fun σ3 H3 => ∃ ρ3 G3, Ext G1 H1 G3 H3 ∧ DRel X.K σ3 H3 ρ3 G3 ∧ dForGo ok g tb (items.drop (i + 1)) E ρ3 G3, fun σ3 H3 ⟨ρ3, G3, q⟩ => ⟨items.length - (i + 1), by omega, rfl, hlt, ρ3, G3, q⟩, fun x H3 hy => ?_⟩
    obtain ⟨e3, g3, rx⟩ := yl x H3 hy
    refine ⟨ρ2, G2, items[i], _, r2.ext e3 g3, rx, h2, fun σ4 ρ4 H4 G4 e4 r4 h4 => ?_⟩
    have e5 := (e2.trans e3).trans e4
    refine ⟨ρ4, G4, _, r4, h4, ?_, ?_, ?_, ?_⟩
    · exact fun σ' ρ' H' G' e' r' h' => ⟨ρ', G', e5.trans e', r', h'⟩
    · exact fun v d H' G' e' => k2 v d H' G' ((e1.trans e5).trans e')
    · exact fun σ' ρ' H' G' e' r' h' => k1 σ' ρ' H' G' ((e1.trans e5).trans e') r' h'
    · exact fun σ' ρ' H' G' e' r' h' => ⟨ρ', G', e5.trans e', r', h'⟩
  · have e : i = items.length := by omega
    subst e
    rw [List.drop_length] at h2
    unfold dForGo at h2
    exact .inl ⟨(it G2 H2 e2 r2.gok h2.1 _).2 rfl, k1 σ2 ρ2 H2 G2 (e1.trans e2) r2 h2.2⟩
def wipeD (ρ : DSt) : List Nat → DSt
  | [] => ρ
  | v :: vs => (wipeD ρ vs).set v none
theorem DRel.wipe {K : PySem.W.Frag} {σ : St} {H : Hp} {ρ : DSt} {G : GH} (r : DRel K σ H ρ G) : ∀ vs : List Nat, DRel K (wipe σ vs) H (wipeD ρ vs) G
  | [] => r
  | v :: vs => by
    have ih := DRel.wipe r vs
    unfold L2.wipe wipeD
    refine ⟨by simp [ih.len], fun i d h => ?_, ih.gok⟩
    by_cases q : v = i
    · subst q
      by_cases hl : v < (wipeD ρ vs).length
      · rw [List.getElem?_set_self hl] at h; cases h
      · rw [List.getElem?_eq_none (by simpa using hl)] at h; cases h
    · rw [List.getElem?_set_ne q] at h
      obtain ⟨w, h1, h2⟩ := ih.at_ i d h
      exact ⟨w, by rw [List.getElem?_set_ne q]; exact h1, h2⟩
abbrev DTs (X : Cx) (ifs : List Expr) (t : DTT) : Prop := PTs X ifs (upT X.K t)
@[simp] def dYes : DTT := fun _ G Q => Q true G
theorem dts_nil : DTs X [] dYes := ⟨fun pins s σ H Q I ⟨ρ, G, q, r, h, k⟩ => (pts_nil (X := X)).run pins s σ H Q I (k true H G (Ext.refl G H) r h)⟩
theorem dts_one {c : Expr} {t : DTT} (h : DT X c t) : DTs X [c] t := pts_one h
end
end Dl
namespace Dl
open PySem L2
inductive CT where
  | one (i : Nat)
  | tup (is : List Nat)
def CT.slots : CT → List Nat
  | .one i => [i]
  | .tup is => is
def setAll : DSt → List Nat → List D → Option DSt
  | ρ, [], [] => some ρ
  | ρ, i :: is, d :: ds => setAll (ρ.set i (some d)) is ds
  | _, _, _ => none
def bindC : CT → D → DSt → Option DSt
  | .one i, d, ρ => some (ρ.set i (some d))
  | .tup is, .tup ds, ρ => setAll ρ is ds
  | .tup _, _, _ => none
def gNames : List Nat → TGs
  | [] => gNil
  | i :: is => gCons (gName i) (gNames is)
def CT.gV (K : PySem.W.Frag) : CT → TG
  | .one i => gName i
  | .tup is => gTup K is.length (gNames is)
theorem wipe_set {σ : St} {i : Nat} {x : Option V} : ∀ {vs : List Nat}, i ∈ vs → wipe (σ.set i x) vs = wipe σ vs
  | v :: vs, h => by
    unfold wipe
    by_cases q : i ∈ vs
    · rw [wipe_set q]
    · have e : v = i := by
        rcases List.mem_cons.mp h with e | e
        · exact e.symm
        · exact absurd e q
      subst e
      have go : ∀ ws : List Nat, v ∉ ws → wipe (σ.set v x) ws = (wipe σ ws).set v x := by
        intro ws
        induction ws with
        | nil => intro _; rfl
        | cons w ws ih =>
          intro hw
          simp only [List.mem_cons, not_or] at hw
          unfold wipe
          rw [ih hw.2, List.set_comm _ _ hw.1]
      rw [go vs q, List.set_set]
theorem wipe_wipe (σ : St) (vs : List Nat) : wipe (wipe σ vs) vs = wipe σ vs := by
  have go : ∀ ws : List Nat, (∀ i ∈ ws, i ∈ vs) → wipe (wipe σ ws) vs = wipe σ vs := by
    intro ws
    induction ws with
    | nil => intro _; rfl
    | cons w ws ih =>
      intro h
      show wipe ((wipe σ ws).set w none) vs = wipe σ vs
      rw [wipe_set (h w List.mem_cons_self)]
      exact ih fun i hi => h i (List.mem_cons_of_mem _ hi)
  exact go vs fun _ h => h
theorem setAll_ok {K : PySem.W.Frag} {H : Hp} {G : GH} {vs : List Nat} : ∀ {is : List Nat} {ds : List D} {xs : List V} {ρ ρ' : DSt} {σ : St} {Q : St → Hp → Prop}, (∀ i ∈ is, i ∈ vs) → DRel K σ H ρ G → RepL K G H ds xs → setAll ρ is ds = some ρ' →
    (∀ σ', DRel K σ' H ρ' G → wipe σ' vs = wipe σ vs → Q σ' H) → xs.length = is.length ∧ gNames is xs σ H Q
  | [], [], _, ρ, ρ', σ, Q, hi, r, rl, e, k => by
    unfold RepL at rl
    subst rl
    simp [setAll] at e
    subst e
    exact ⟨rfl, rfl, k σ r rfl⟩
  | i :: is, d :: ds, _, ρ, ρ', σ, Q, hi, r, rl, e, k => by
    unfold RepL at rl
    obtain ⟨x, xs, rfl, hx, hxs⟩ := rl
    have e' : setAll (ρ.set i (some d)) is ds = some ρ' := e
    obtain ⟨l, g⟩ := setAll_ok (vs := vs) (Q := Q) (fun j hj => hi j (List.mem_cons_of_mem _ hj)) (r.set i hx) hxs e' fun σ' r' w => k σ' r' (by rw [w, wipe_set (hi i List.mem_cons_self)])
    exact ⟨by simp [l], x, xs, rfl, g⟩
  | [], _ :: _, _, _, _, _, _, _, _, _, e, _ => by simp [setAll] at e
  | _ :: _, [], _, _, _, _, _, _, _, _, e, _ => by simp [setAll] at e
theorem bindC_ok {K : PySem.W.Frag} {H : Hp} {G : GH} {vs : List Nat} {ct : CT} {d : D} {v : V} {ρ ρ' : DSt} {σ : St} {Q : St → Hp → Prop} (hi : ∀ i ∈ ct.slots, i ∈ vs) (r : DRel K σ H ρ G) (rv : RepV K G H d v) (e : bindC ct d ρ = some ρ')
    (k : ∀ σ', DRel K σ' H ρ' G → wipe σ' vs = wipe σ vs → Q σ' H) : ct.gV K v σ H Q := by
  cases ct with
  | one i =>
    simp only [bindC, Option.some.injEq] at e
    subst e
    exact k _ (r.set i rv) (wipe_set (hi i (by simp [CT.slots])))
  | tup is =>
    cases d with
    | tup ds =>
      unfold RepV at rv
      obtain ⟨a, xs, rfl, ta, rl⟩ := rv
      obtain ⟨l, g⟩ := setAll_ok (Q := Q) hi r rl e k
      exact ⟨a, xs, rfl, ta.sq, l, g⟩
    | _ => simp [bindC] at e
def dLcGo (ok : GH → Prop) (ct : CT) (tt : DTT) (te : DTE) (ρ : DSt) (p : Addr) : List D → GH → DK → Prop
  | [], G, Q => ok G ∧ Q (.ref p) G
  | x :: xs, G, Q => ok G ∧ match bindC ct x ρ with
    | none => False
    | some ρ2 => tt ρ2 G fun b G3 => if b = true then te ρ2 G3 fun y G4 => (match G4 p with
        | some (.lst acc) => acc.length < sizeLine ∧ dLcGo ok ct tt te ρ p xs (updG G4 p (.lst (acc ++ [y]))) Q
        | _ => False) else dLcGo ok ct tt te ρ p xs G3 Q
def dLc (wi : DTI) (ct : CT) (tt : DTT) (te : DTE) (vs : List Nat) : DTE := fun ρ G Q => wi ρ G fun items ok G1 => ∀ p, G1 p = none → dLcGo ok ct tt te (wipeD ρ vs) p items (updG G1 p (.lst [])) Q
theorem up_lc {K : PySem.W.Frag} {wi : DTI} {ct : CT} {tt : DTT} {te : DTE} {vs : List Nat} (hi : ∀ i ∈ ct.slots, i ∈ vs) {σ : St} {H : Hp} {Q : VK} (h : up K (dLc wi ct tt te vs) σ H Q) :
    tLc (upI K wi) (ct.gV K) (upT K tt) (up K te) vs σ H Q := by
  obtain ⟨ρ, G, q, r, h, k⟩ := h
  refine ⟨ρ, G, _, r, h, fun J items ok H1 G1 e1 r1 it h1 => fun p hp => ?_⟩
  obtain ⟨e2, r2, _⟩ := r1.newLst hp (repL_nil (K := K) (G := G1) (H := H1))
  have h2 := h1 p (r1.gok.fresh hp)
  refine ⟨fun i m H2 => m = items.length - i ∧ i ≤ items.length ∧ ∃ G2, Ext (updG G1 p (.lst [])) (upd H1 p (.lst [])) G2 H2 ∧ GOk K G2 H2 ∧ dLcGo ok ct tt te (wipeD ρ vs) p (items.drop i) G2 q, ⟨items.length, rfl, Nat.zero_le _, _, Ext.refl _ _, r2.gok, h2⟩, ?_⟩
  rintro i m H2 ⟨rfl, hi2, G2, e3, g3, h3⟩
  have r3 : DRel K σ H2 ρ G2 := r2.ext e3 g3
  have e13 : Ext G1 H1 G2 H2 := e2.trans e3
  by_cases hlt : i < items.length
  · rw [List.drop_eq_getElem_cons hlt] at h3
    unfold dLcGo at h3
    obtain ⟨ho, h3⟩ := h3
    obtain ⟨a, b⟩ := it G2 H2 e13 g3 ho i
    obtain ⟨go, yl⟩ := a items[i] (List.getElem?_eq_getElem hlt)
    refine .inr ⟨go, fun H3 => ∃ G3, Ext (updG G1 p (.lst [])) (upd H1 p (.lst [])) G3 H3 ∧ GOk K G3 H3 ∧ dLcGo ok ct tt te (wipeD ρ vs) p (items.drop (i + 1)) G3 q, fun H3 ⟨G3, q3⟩ => ⟨items.length - (i + 1), by omega, rfl, hlt, G3, q3⟩, fun x H3 hy => ?_⟩
    obtain ⟨e4, g4, rx⟩ := yl x H3 hy
    have r4 : DRel K (wipe σ vs) H3 (wipeD ρ vs) G2 := (r3.ext e4 g4).wipe vs
    cases eb : bindC ct items[i] (wipeD ρ vs) with
    | none => rw [eb] at h3; exact h3.elim
    | some ρ2 =>
      rw [eb] at h3
      refine bindC_ok hi r4 rx eb fun σ5 r5 w5 => ⟨by rw [w5, wipe_wipe], ρ2, G2, _, r5, h3, fun b H6 G6 e6 r6 h6 => ?_⟩
      have e36 := (e3.trans e4).trans e6
      cases b with
      | false => exact ⟨G6, e36, r6.gok, h6⟩
      | true =>
        refine ⟨ρ2, G6, _, r6, h6, fun y dy H7 G7 e7 r7 v7 h7 => ?_⟩
        cases hg : G7 p with
        | none => rw [hg] at h7; exact h7.elim
        | some o =>
          rw [hg] at h7
          cases o with
          | lst acc =>
            obtain ⟨xs, hx, rx⟩ := r7.gok p _ hg
            have e8 : Ext G7 H7 (updG G7 p (.lst (acc ++ [dy]))) (upd H7 p (.lst (xs ++ [y]))) := Ext.write hg
            refine ⟨xs, hx, by rw [rx.length]; exact h7.1, _, (e36.trans e7).trans e8, r7.gok.put e8 ⟨_, upd_same, (rx.append (repL_one v7)).ext e8⟩, h7.2⟩
          | dct _ => exact h7.elim
          | raw _ => exact h7.elim
          | ins _ _ => exact h7.elim
          | dtp _ => exact h7.elim
          | tab _ => exact h7.elim
          | slt _ _ => exact h7.elim
          | dny _ _ _ => exact h7.elim
  · have e : i = items.length := by omega
    subst e
    rw [List.drop_length] at h3
    unfold dLcGo at h3
    refine .inl ⟨(it G2 H2 e13 g3 h3.1 _).2 rfl, k _ (.ref p) H2 G2 (e1.trans e13) (r3) (by unfold RepV; rfl) h3.2⟩
section
variable {X : Cx}
theorem de_lc {elt tg iter : Expr} {ifs : List Expr} {scope : Scope} {own : List (Str × Nat)} {pos : Pos} {wi : DTI} {ct : CT} {tt : DTT} {te : DTE} (hc : X.calm = true) (hN : X.N.Nodup) (hi : DI X tg iter wi) (ok : BlkOk X.N X.env.scope scope own)
    (hv : ∀ i ∈ ct.slots, i ∈ own.map (·.2))
    (hg : ∀ (s : Shared) (H : Hp) (C : Addr) (cl : List (Str × Addr)) (fp : List Addr), PG (X.blk s H scope (compEnvC scope cl C X.env) fp) tg (ct.gV X.K)) (ht : ∀ (s : Shared) (H : Hp) (C : Addr) (cl : List (Str × Addr)) (fp : List Addr), DTs (X.blk s H scope (compEnvC scope cl C X.env) fp) ifs tt)
    (he : ∀ (s : Shared) (H : Hp) (C : Addr) (cl : List (Str × Addr)) (fp : List Addr), DE (X.blk s H scope (compEnvC scope cl C X.env) fp) elt te) (hs : ∀ x, foldedSetIterable iter X.env x = pure x := by intro _; rfl) :
    DE X (.ListComp elt [⟨tg, iter, ifs, 0⟩] scope pos) (dLc wi ct tt te (own.map (·.2))) :=
  (pe_lc hc hN hi ok hg ht he hs).imp fun _ _ _ h => up_lc hv h
theorem ds_setLcF {i : Nat} {y : Str} {py : Pos} {elt tg iter : Expr} {ifs : List Expr} {scope : Scope} {own : List (Str × Nat)} {pos spos : Pos} {wi : DTI} {ct : CT} {tt : DTT} {te : DTE} (hc : X.calm = true) (hN : X.N.Nodup) (hy : X.N[i]? = some y) (hyl : X.env.scope.names.lookup y = some .local)
    (hsw : swapsWith (.ListComp elt [⟨tg, iter, ifs, 0⟩] scope pos) (some (.Name y py)) spos.line X.env = pure true) (hi : DI X tg iter wi) (ok : BlkOk X.N X.env.scope scope own)
    (hv : ∀ i ∈ ct.slots, i ∈ own.map (·.2))
    (hg : ∀ (s : Shared) (H : Hp) (C : Addr) (cl : List (Str × Addr)) (fp : List Addr), PG (X.blk s H scope (compEnvC scope cl C X.env) fp) tg (ct.gV X.K)) (ht : ∀ (s : Shared) (H : Hp) (C : Addr) (cl : List (Str × Addr)) (fp : List Addr), DTs (X.blk s H scope (compEnvC scope cl C X.env) fp) ifs tt)
    (he : ∀ (s : Shared) (H : Hp) (C : Addr) (cl : List (Str × Addr)) (fp : List Addr), DE (X.blk s H scope (compEnvC scope cl C X.env) fp) elt te) (hs : ∀ x, foldedSetIterable iter X.env x = pure x := by intro _; rfl) :
    DS X (.Assign [.Name y py] (.ListComp elt [⟨tg, iter, ifs, 0⟩] scope pos) spos) (dAsg (dFrz (dLc wi ct tt te (own.map (·.2)))) (gNm i)) := by
  refine (ps_setLc (tt := upT X.K tt) (te := up X.K te) hc hN hy hyl hsw hi ok hg ht he hs).imp fun D σ H h => ?_
  obtain ⟨ρ, G, E, r, h, k1, k2, k3, k4⟩ := h
  refine up_lc (K := X.K) (Q := fun x H1 => gName i x σ H1 D.nx) hv ⟨ρ, G, _, r, h, fun v d H1 G1 e1 r1 v1 h1 => ?_⟩
  cases d with
  | ref p =>
    dsimp only at h1
    cases q : G1 p with
    | none => rw [q] at h1; exact k1 _ _ H1 G1 e1 (r1.set i v1) h1
    | some o =>
      rw [q] at h1
      cases o with
      | lst ds =>
        dsimp only at h1
        obtain ⟨xs, hx, rx⟩ := r1.gok p _ q
        have e2 : Ext G1 H1 (dropG G1 p) H1 := Ext.drop
        refine k1 _ _ H1 (dropG G1 p) (e1.trans e2) ((r1.ext e2 r1.gok.drop).set i ?_) h1
        unfold RepV at v1 ⊢
        exact ⟨p, xs, v1, ⟨dropG_same, hx⟩, rx.ext e2⟩
      | dct kvs => exact k1 _ _ H1 G1 e1 (r1.set i v1) h1
      | raw o => exact k1 _ _ H1 G1 e1 (r1.set i v1) h1
      | ins _ _ => exact k1 _ _ H1 G1 e1 (r1.set i v1) h1
      | dtp _ => exact k1 _ _ H1 G1 e1 (r1.set i v1) h1
      | tab _ => exact k1 _ _ H1 G1 e1 (r1.set i v1) h1
      | slt _ _ => exact k1 _ _ H1 G1 e1 (r1.set i v1) h1
      | dny _ _ _ => exact k1 _ _ H1 G1 e1 (r1.set i v1) h1
  | _ => exact k1 _ _ H1 G1 e1 (r1.set i v1) h1
end
structure DX where
  cls : Str
  fs : List (Str × D)
abbrev DXK := DX → GH → Prop
abbrev DSp := List D → GH → DK → DXK → Prop
def ExcRep (K : PySem.W.Frag) (G : GH) (H : Hp) (x : DX) (c : Value) (od : Option Addr) : Prop := c = .ref (He.ga K x.cls) ∧ ∃ d ws, od = some d ∧ G d = none ∧ H d = some (.xd ws) ∧ ws.map (·.1) = x.fs.map (·.1) ∧ RepL K G H (x.fs.map (·.2)) (ws.map (·.2))
def toSp (K : PySem.W.Frag) (sp : DSp) : Sp := fun vs H Qv Ev => ∃ ds G Q E, RepL K G H ds vs ∧ GOk K G H ∧ sp ds G Q E ∧ (∀ v d H' G', Ext G H G' H' → GOk K G' H' → RepV K G' H' d v → Q d G' → Qv v H') ∧
  (∀ x c od H' G', Ext G H G' H' → GOk K G' H' → ExcRep K G' H' x c od → E x G' → Ev c od H')
abbrev noX : DXK := fun _ _ => False
structure GFn (P : Program) (w : World) (K : PySem.W.Frag) (mg : Str → Option Value) (base : Heap) (CX : CXT) (k : Nat) (f : Addr) (fd : FuncData) (ps : List Str) (sp : Sp) : Prop where
  arity : ∀ xs H Q E, sp xs H Q E → xs.length = ps.length
  go : ∀ (A : Around) (out : List Env) (st : Shared) (H : Hp) (ar : Args) (us : List Value) (xs : List V) (Q : VK) (E : XK), Room k A → A.guards = some [] → Env0 P w K mg base A out st H →
    BindsTo st fd ar (ps.zip us) → Vals xs us → sp xs H Q E → codeAny (model P w) A (.call (.ref f) ar) (CR CX out P w H st Q E) st
theorem GFn.up {P : Program} {w : World} {K : PySem.W.Frag} {mg : Str → Option Value} {base : Heap} {CX : CXT} {j k : Nat} {f : Addr} {fd : FuncData} {ps : List Str} {sp : Sp} (F : GFn P w K mg base CX j f fd ps sp) (h : j ≤ k) : GFn P w K mg base CX k f fd ps sp :=
  ⟨F.arity, fun A out st H ar us xs Q E hr => F.go A out st H ar us xs Q E (hr.mono h)⟩
theorem gfn_of {CX : CXT} {P : Program} {w : World} {K : PySem.W.Frag} {mg : Str → Option Value} {base : Heap} {k : Nat} {f : Addr} {fd : FuncData} {x qual : Str} {params : Arguments} {body : List Stmt} {scope : Scope} {dvs : List V} {kws : List (Str × V)}
    {N ps : List Str} {sp : Sp} (F : FunD K x qual params body scope dvs kws f fd) (S : FnScope N ps scope) (len : ∀ xs H Q E, sp xs H Q E → xs.length = ps.length)
    (hbody : ∀ (cdv : Value) (A : Around) (out : List Env) (st : Shared) (H : Hp) (xs : List V) (Q : VK) (E : XK), Room k (A.deeper (PyProof.Rows.envOfC qual scope st.heap.objs.size f cdv)) → (A.deeper (PyProof.Rows.envOfC qual scope st.heap.objs.size f cdv)).guards = some [] →
      sp xs H Q E → ∃ t, PSs (cxOf CX P w K mg base N qual scope f cdv A out st H E) body t ∧ t { nx := fun _ H' => Q .non H', rt := Q } (L2.start N xs) H) : GFn P w K mg base CX (k + 1) f fd ps sp := by
  obtain ⟨oc, od, dV, kV, doc, pm, an, cdv, ct, osl, hfd, lk, hcd, _, _⟩ := F.ex
  subst hfd
  constructor
  · exact len
  intro A out st H ar us xs Q E hr hgd e0 hb rl hsp
  have kin : K.In st.heap := PySem.W.Frag.In.keeps e0.mod.kin (fun b o e => (e0.bs b o e).1)
  have nl : st.heap.NoLimit := Heap.NoLimit.keeps e0.mod.nolimit (fun b o e => (e0.bs b o e).1)
  have kinds : ∀ y ∈ ps.zip us, scope.names.lookup y.1 = some .local ∨ (scope.names.lookup y.1 = some .cell ∧ ((cellsFrom (st.heap.objs.size + 1) scope.names []).lookup y.1).isSome = true) := by
    rintro ⟨n, v⟩ hy
    cases S.par n (List.of_mem_zip hy).1 with
    | inl q => exact .inl q
    | inr q => exact .inr ⟨q, PySem.W.cellsFrom_some _ _ _ (.inl q)⟩
  refine PySem.codeAny_call_function hr.depth (kin _ _ lk) rfl S.co S.gen rfl (PySem.W.codeRec_of kin hcd) ?_
  refine hb _ _ _ _ ?_
  refine wpAny_newFunctionEnv_cells S.kind kinds ?_
  intro env he s1 ic
  subst he
  refine ⟨nl.keeps ic.toInCall.keep, PySem.codeAny_func ?_⟩
  have gd : (A.deeper (PyProof.Rows.envOfC qual scope st.heap.objs.size f cdv)).guards = some [] := hgd
  obtain ⟨t, ht, hq⟩ := hbody cdv A out st H xs Q E (hr.deeper _) gd hsp
  have inv := inv_start (CX := CX) (E := E) S hr.hd e0 (len _ _ _ _ hsp) rl ic
  refine wpAny_mono (ht.run [] s1 _ H _ inv hq) ?_ (fun _ _ z => z)
  intro fl s2 hs
  cases fl with
  | ret u => obtain ⟨v, σ2, H2, J, rv, q⟩ := hs; exact ⟨v, H2, J.os, J.bare, J.base, J.hok, rv, q⟩
  | next => obtain ⟨σ2, H2, J, q⟩ := hs; exact ⟨V.non, H2, J.os, J.bare, J.base, J.hok, rfl, q⟩
  | brk => obtain ⟨_, _, _, q⟩ := hs; exact q.elim
  | cont => obtain ⟨_, _, _, q⟩ := hs; exact q.elim
section
variable {X : Cx} {CX : CXT} {k : Nat} {f : Addr} {fd : FuncData} {ps : List Str} {x : Str} {p pos : Pos} {e : Expr} {es : List Expr} {E : XK}
theorem g_run {sp : Sp} {pins : List (Addr × Obj)} {σ : St} {H : Hp} {s : Shared} {Q : VK} {us : List Value} {xs : List V} (F : GFn X.prog X.w X.K X.mg X.base CX k f fd ps sp) (hr : Room k X.A) (hgd : X.A.guards = some []) (hb : Binds X.K fd ps []) (hx : Passes CX X E)
    (I : Inv X pins σ H s) (r : Vals xs us) (h : sp xs H Q E) : wpAny (model X.prog X.w) X.A (PySem.call (.ref f) us) (EP X pins σ Q) X.xe s := by
  have al : (us ++ []).length = ps.length := by rw [List.append_nil, ← r.length]; exact F.arity _ _ _ _ h
  have bd := hb s us I.kIn al
  rw [List.append_nil] at bd
  refine wpAny_call (codeAny_mono (F.go X.A X.stack s H ⟨us, []⟩ us xs Q E hr hgd I.env0 bd r h) ?_)
  intro res s2 hq
  match res, hq with
  | .error er, hq => exact hx pins σ H s er s2 I hq
  | .ok (.ret u), hq => exact I.after hq
theorem ge_call {sp : Sp} {t : TA} (F : GFn X.prog X.w X.K X.mg X.base CX k f fd ps sp) (hr : Room k X.A) (hgd : X.A.guards = some []) (hg : Gl X x) (hm : X.mg x = some (.ref f)) (hk : PySem.W.keepIn X.K (.ref f) = true) (hb : Binds X.K fd ps []) (hx : Passes CX X E)
    (ha : PA X (e :: es) t) (hdb : (x == ("__debug__" : Str)) = false := by decide) (he : starEach (e :: es) X.env = (false, eval e X.env) :: starEach es X.env := by rfl) (hpl : (backTo pos (starEach es X.env)).any (·.1) = false := by rfl) :
    PE X (.Call (.Name x p) (e :: es) [] pos) (fun σ H Q => t σ H fun vs H1 => sp vs H1 Q E) := by
  constructor
  intro pins s σ H Q I h
  refine wpAny_Call_Name_kw (ld_glob I hg hm ?_ hdb)
  refine PySem.W.callWith_K (h₀ := X.base) I.ok.mod.kin hk ?_ he hpl
  refine thn (ha.run pos pins s σ H _ I h) ?_
  rintro us s1 ⟨xs, H1, I1, r, q⟩
  exact ⟨I1.kIn, g_run F hr hgd hb hx I1 r q⟩
theorem ge_call0 {sp : Sp} (F : GFn X.prog X.w X.K X.mg X.base CX k f fd ps sp) (hr : Room k X.A) (hgd : X.A.guards = some []) (hg : Gl X x) (hm : X.mg x = some (.ref f)) (hk : PySem.W.keepIn X.K (.ref f) = true) (hb : Binds X.K fd ps []) (hx : Passes CX X E)
    (hdb : (x == ("__debug__" : Str)) = false := by decide) : PE X (.Call (.Name x p) [] [] pos) (fun σ H Q => sp [] H Q E) := by
  constructor
  intro pins s σ H Q I h
  refine wpAny_Call_Name_kw (ld_glob I hg hm ?_ hdb)
  exact PySem.W.callWith_K0 I.kIn hk (g_run (us := []) F hr hgd hb hx I .nil h)
end
@[simp] def dCall (sp : DSp) (ta : DTA) : DTE := fun ρ G Q => ta ρ G fun ds G1 => sp ds G1 Q noX
abbrev DFn (P : Program) (w : World) (K : PySem.W.Frag) (mg : Str → Option Value) (base : Heap) (k : Nat) (f : Addr) (fd : FuncData) (ps : List Str) (sp : DSp) : Prop := GFn P w K mg base CX0 k f fd ps (toSp K sp)
section
variable {X : Cx} {k : Nat} {f : Addr} {fd : FuncData} {ps : List Str} {sp : DSp} {x : Str} {p pos : Pos} {e : Expr} {es : List Expr} {ta : DTA}
theorem sp_at {K : PySem.W.Frag} {σ : St} {H : Hp} {ρ : DSt} {G : GH} {Q : VK} {q : DK} {vs : List V} {ds : List D} (r : DRel K σ H ρ G) (v : RepL K G H ds vs) (h : sp ds G q noX) (k : ∀ v d H' G', Ext G H G' H' → DRel K σ H' ρ G' → RepV K G' H' d v → q d G' → Q v H') : toSp K sp vs H Q E0 :=
  ⟨ds, G, q, noX, v, r.gok, h, fun v d H' G' e2 g2 v2 h2 => k v d H' G' e2 (r.ext e2 g2) v2 h2, fun _ _ _ _ _ _ _ _ z => z.elim⟩
theorem de_call (F : DFn X.prog X.w X.K X.mg X.base k f fd ps sp) (hr : Room k X.A) (hgd : X.A.guards = some []) (hg : Gl X x) (hm : X.mg x = some (.ref f)) (hk : PySem.W.keepIn X.K (.ref f) = true) (hb : Binds X.K fd ps [])
    (ha : DA X (e :: es) ta) (hdb : (x == ("__debug__" : Str)) = false := by decide) (he : starEach (e :: es) X.env = (false, eval e X.env) :: starEach es X.env := by rfl) (hpl : (backTo pos (starEach es X.env)).any (·.1) = false := by rfl) :
    DE X (.Call (.Name x p) (e :: es) [] pos) (dCall sp ta) := (ge_call F hr hgd hg hm hk hb pass0 ha hdb he hpl).imp fun σ H Q ⟨ρ, G, q, r, h, k⟩ => by
  refine ⟨ρ, G, _, r, h, fun vs ds H1 G1 e1 r1 v1 h1 => ?_⟩
  exact sp_at r1 v1 h1 fun v d H' G' e2 r2 v2 h2 => k v d H' G' (e1.trans e2) r2 v2 h2
theorem de_call0 (F : DFn X.prog X.w X.K X.mg X.base k f fd ps sp) (hr : Room k X.A) (hgd : X.A.guards = some []) (hg : Gl X x) (hm : X.mg x = some (.ref f)) (hk : PySem.W.keepIn X.K (.ref f) = true) (hb : Binds X.K fd ps [])
    (hdb : (x == ("__debug__" : Str)) = false := by decide) : DE X (.Call (.Name x p) [] [] pos) (dCall sp dNil) := (ge_call0 F hr hgd hg hm hk hb pass0 hdb).imp fun σ H Q ⟨ρ, G, q, r, h, k⟩ => sp_at r repL_nil h k
end
def startD (n : Nat) (ds : List D) : DSt := ds.map some ++ List.replicate (n - ds.length) none
theorem start_rel {K : PySem.W.Frag} {H : Hp} {G : GH} {N : List Str} {ds : List D} {vs : List V} (rl : RepL K G H ds vs) (g : GOk K G H) : DRel K (L2.start N vs) H (startD N.length ds) G := by
  have hl := rl.length
  refine ⟨by simp [L2.start, startD, hl], fun i d h => ?_, g⟩
  unfold startD at h
  by_cases hi : i < ds.length
  · rw [List.getElem?_append_left (by simpa using hi), List.getElem?_map] at h
    cases q : ds[i]? with
    | none => rw [q] at h; simp at h
    | some d' =>
      rw [q] at h
      simp at h
      subst h
      obtain ⟨v, e1, e2⟩ := rl.get q
      refine ⟨v, ?_, e2⟩
      unfold L2.start
      rw [List.getElem?_append_left (by simp [hl]; exact hi), List.getElem?_map, e1]
      rfl
  · rw [List.getElem?_append_right (by simpa using hi), List.getElem?_replicate] at h
    split at h <;> cases h
theorem dfn_of {P : Program} {w : World} {K : PySem.W.Frag} {mg : Str → Option Value} {base : Heap} {x qual : Str} {params : Arguments} {body : List Stmt} {scope : Scope} {dvs : List V} {kws : List (Str × V)} {f : Addr} {fd : FuncData}
    {N ps : List Str} {k : Nat} {sp : DSp} {t : DTS} (F : FunD K x qual params body scope dvs kws f fd) (S : FnScope N ps scope) (len : ∀ ds G Q E, sp ds G Q E → ds.length = ps.length)
    (hbody : ∀ (cdv : Value) (A : Around) (out : List Env) (st : Shared) (H : Hp) (E : XK), Room k (A.deeper (PyProof.Rows.envOfC qual scope st.heap.objs.size f cdv)) → (A.deeper (PyProof.Rows.envOfC qual scope st.heap.objs.size f cdv)).guards = some [] →
      DSs (cxOf CX0 P w K mg base N qual scope f cdv A out st H E).nox body t)
    (ok : ∀ ds G Q E, sp ds G Q E → t { nx := fun _ G' => Q .non G', rt := Q } (startD N.length ds) G) : DFn P w K mg base (k + 1) f fd ps sp := by
  refine gfn_of F S (fun vs H Q E h => ?_) fun cdv A outer s H vs Q E hr hg h => ⟨_, PSs.nox (hbody cdv A outer s H E hr hg), ?_⟩
  · obtain ⟨ds, G, q, e, rl, _, h, _⟩ := h
    rw [rl.length]
    exact len _ _ _ _ h
  · obtain ⟨ds, G, q, e, rl, g, h, kq, ke⟩ := h
    refine ⟨startD N.length ds, G, _, start_rel rl g, ok ds G q e h, ?_, ?_, ?_, ?_⟩
    · exact fun σ' ρ' H' G' e' r' h' => kq .non .non H' G' e' r'.gok (by unfold RepV; rfl) h'
    · exact fun v d H' G' e' g' v' h' => kq v d H' G' e' g' v' h'
    · exact fun _ _ _ _ _ _ z => z.elim
    · exact fun _ _ _ _ _ _ z => z.elim
end Dl
namespace Dl
open PySem L2
@[simp] def lsOf (G : GH) : D → Option (List D)
  | .lst ds => some ds
  | .ref a => (match G a with
    | some (.lst ds) => some ds
    | _ => none)
  | _ => none
@[simp] def sqOf (G : GH) : D → Option (List D)
  | .tup ds => some ds
  | .lst ds => some ds
  | .ref a => (match G a with
    | some (.lst ds) => some ds
    | _ => none)
  | _ => none
section
variable {K : PySem.W.Frag} {G : GH} {H : Hp} {d : D} {v : V} {ds : List D}
theorem ls_at (g : GOk K G H) (r : RepV K G H d v) (h : lsOf G d = some ds) : ∃ a xs, v = .ref a ∧ H a = some (.lst xs) ∧ RepL K G H ds xs := by
  cases d with
  | lst es =>
    simp only [lsOf, Option.some.injEq] at h
    subst h
    unfold RepV at r
    obtain ⟨a, xs, rfl, ta, rl⟩ := r
    exact ⟨a, xs, rfl, ta.2, rl⟩
  | ref a =>
    simp only [lsOf] at h
    unfold RepV at r
    subst r
    cases q : G a with
    | none => rw [q] at h; cases h
    | some o =>
      rw [q] at h
      cases o with
      | lst es =>
        simp only [Option.some.injEq] at h
        subst h
        obtain ⟨xs, h1, h2⟩ := g a _ q
        exact ⟨a, xs, rfl, h1, h2⟩
      | dct _ => cases h
      | raw _ => cases h
      | ins _ _ => cases h
      | dtp _ => cases h
      | tab _ => cases h
      | slt _ _ => cases h
      | dny _ _ _ => cases h
  | _ => simp [lsOf] at h
theorem tp_at (r : RepV K G H (.tup ds) v) : ∃ a xs, v = .ref a ∧ SqT K H a xs ∧ RepL K G H ds xs := by
  unfold RepV at r
  obtain ⟨a, xs, rfl, ta, rl⟩ := r
  exact ⟨a, xs, rfl, ta.sq, rl⟩
theorem sq_at (g : GOk K G H) (r : RepV K G H d v) (h : sqOf G d = some ds) : ∃ a xs, v = .ref a ∧ (SqL K H a xs ∨ SqT K H a xs) ∧ RepL K G H ds xs := by
  cases d with
  | tup es =>
    simp only [sqOf, Option.some.injEq] at h
    subst h
    obtain ⟨a, xs, e, t, rl⟩ := tp_at r
    exact ⟨a, xs, e, .inr t, rl⟩
  | lst es =>
    obtain ⟨a, xs, e, t, rl⟩ := ls_at g r (ds := ds) h
    exact ⟨a, xs, e, .inl (SqL.of t), rl⟩
  | ref a =>
    obtain ⟨a, xs, e, t, rl⟩ := ls_at g r (ds := ds) h
    exact ⟨a, xs, e, .inl (SqL.of t), rl⟩
  | _ => simp [sqOf] at h
theorem rv_int {i : Int} (r : RepV K G H (.int i) v) : v = .int i := by unfold RepV at r; exact r
theorem rv_bl {i : Bool} (r : RepV K G H (.bl i) v) : v = .bl i := by unfold RepV at r; exact r
theorem rv_str {i : Str} (r : RepV K G H (.str i) v) : v = .str i := by unfold RepV at r; exact r
theorem rv_non (r : RepV K G H .non v) : v = .non := by unfold RepV at r; exact r
theorem rv_ref {a : Addr} (r : RepV K G H (.ref a) v) : v = .ref a := by unfold RepV at r; exact r
theorem int_rv {i : Int} : RepV K G H (.int i) (.int i) := by unfold RepV; rfl
theorem bl_rv {i : Bool} : RepV K G H (.bl i) (.bl i) := by unfold RepV; rfl
theorem str_rv {i : Str} : RepV K G H (.str i) (.str i) := by unfold RepV; rfl
theorem non_rv : RepV K G H .non .non := by unfold RepV; rfl
theorem ref_rv {a : Addr} : RepV K G H (.ref a) (.ref a) := by unfold RepV; rfl
theorem new_tup {p : Addr} {vs : List V} (g : GOk K G H) (hp : H p = none) (hv : RepL K G H ds vs) : Ext G H G (upd H p (.tup vs)) ∧ GOk K G (upd H p (.tup vs)) ∧ RepV K G (upd H p (.tup vs)) (.tup ds) (.ref p) := by
  have e : Ext G H G (upd H p (.tup vs)) := Ext.new hp
  refine ⟨e, g.new hp, ?_⟩
  unfold RepV
  exact ⟨p, vs, rfl, .inl ⟨g.fresh hp, upd_same⟩, hv.ext e⟩
theorem new_lst {p : Addr} {vs : List V} (g : GOk K G H) (hp : H p = none) (hv : RepL K G H ds vs) : Ext G H (updG G p (.lst ds)) (upd H p (.lst vs)) ∧ GOk K (updG G p (.lst ds)) (upd H p (.lst vs)) ∧ RepV K (updG G p (.lst ds)) (upd H p (.lst vs)) (.ref p) (.ref p) := by
  have e : Ext G H (updG G p (.lst ds)) (upd H p (.lst vs)) := Ext.newG hp
  exact ⟨e, g.put e ⟨vs, upd_same, hv.ext e⟩, ref_rv⟩
theorem put_lst {p : Addr} {vs : List V} {o : DO} (g : GOk K G H) (hp : G p = some o) (hv : RepL K G H ds vs) : Ext G H (updG G p (.lst ds)) (upd H p (.lst vs)) ∧ GOk K (updG G p (.lst ds)) (upd H p (.lst vs)) := by
  have e : Ext G H (updG G p (.lst ds)) (upd H p (.lst vs)) := Ext.write hp
  exact ⟨e, g.put e ⟨vs, upd_same, hv.ext e⟩⟩
end
@[simp] def rCatL (G : GH) (Q : DK) (a b : List D) : Prop := a.length + b.length ≤ sizeLine ∧ ∀ p, G p = none → Q (.ref p) (updG G p (.lst (a ++ b)))
@[simp] def rAdd : DR2 := fun x y G Q => match x with
  | .int i => (match y with
    | .int j => Q (.int (i + j)) G
    | _ => False)
  | .str a => (match y with
    | .str b => a.length + b.length ≤ sizeLine ∧ Q (.str (a ++ b)) G
    | _ => False)
  | .tup a => (match y with
    | .tup b => a.length + b.length ≤ sizeLine ∧ Q (.tup (a ++ b)) G
    | _ => False)
  | .lst a => (match lsOf G y with
    | some b => rCatL G Q a b
    | none => False)
  | .ref p => (match lsOf G (.ref p) with
    | some a => (match lsOf G y with
      | some b => rCatL G Q a b
      | none => False)
    | none => False)
  | _ => False
section
variable {X : Cx}
theorem cat_lists {pins : List (Addr × Obj)} {s : Shared} {σ : St} {H : Hp} {x y : V} {v u : Value} {Qv : VK} {G : GH} {dx dy : D} {q : DK} {a b : List D} (I : Inv X pins σ H s) (rx : RelV x v) (ry : RelV y u) (g : GOk X.K G H) (r1 : RepV X.K G H dx x) (r2 : RepV X.K G H dy y)
    (ha : lsOf G dx = some a) (hb : lsOf G dy = some b) (h : rCatL G q a b) (k : ∀ v d H' G', Ext G H G' H' → GOk X.K G' H' → RepV X.K G' H' d v → q d G' → Qv v H') : wpAny (model X.prog X.w) X.A (binaryOp .Add v u) (EP X pins σ Qv) X.xe s := by
  obtain ⟨l, xs, rfl, h1, l1⟩ := ls_at g r1 ha
  obtain ⟨m, ys, rfl, h2, l2⟩ := ls_at g r2 hb
  refine op_cat pins s σ H _ _ v u Qv I rx ry ⟨l, m, xs, ys, rfl, rfl, h1, h2, by rw [l1.length, l2.length]; exact h.1, fun p hp => ?_⟩
  obtain ⟨e, g', rv⟩ := new_lst g hp (l1.append l2)
  exact k _ _ _ _ e g' rv (h.2 p (g.fresh hp))
theorem o_add : DOp X (binaryOp .Add) rAdd := by
  intro pins s σ H x y v u Q I rx ry ⟨G, dx, dy, q, g, r1, r2, h, k⟩
  cases dx with
  | int i =>
    cases dy with
    | int j =>
      cases rv_int r1; cases rv_int r2
      exact op_add pins s σ H _ _ v u Q I rx ry ⟨i, j, rfl, rfl, k _ _ H G (Ext.refl G H) g int_rv h⟩
    | _ => exact h.elim
  | str a =>
    cases dy with
    | str b =>
      cases rv_str r1; cases rv_str r2
      exact op_add_str pins s σ H _ _ v u Q I rx ry ⟨a, b, rfl, rfl, h.1, k _ _ H G (Ext.refl G H) g str_rv h.2⟩
    | _ => exact h.elim
  | tup a =>
    cases dy with
    | tup b =>
      obtain ⟨l, xs, rfl, h1, l1⟩ := tp_at r1
      obtain ⟨m, ys, rfl, h2, l2⟩ := tp_at r2
      refine op_catA pins s σ H _ _ v u Q I rx ry ⟨l, m, xs, ys, rfl, rfl, h1, h2, by rw [l1.length, l2.length]; exact h.1, fun e => ?_, fun _ e => ?_, fun _ _ p hp => ?_⟩
      · have ea : a = [] := List.eq_nil_of_length_eq_zero (by rw [← l1.length, e]; rfl)
        subst ea
        exact k _ _ H G (Ext.refl G H) g r2 h.2
      · have ea : b = [] := List.eq_nil_of_length_eq_zero (by rw [← l2.length, e]; rfl)
        subst ea
        have h2 := h.2
        rw [List.append_nil] at h2
        exact k _ _ H G (Ext.refl G H) g r1 h2
      · obtain ⟨e, g', rv⟩ := new_tup g hp (l1.append l2)
        exact k _ _ _ _ e g' rv h.2
    | _ => exact h.elim
  | lst a =>
    dsimp only [rAdd] at h
    cases q2 : lsOf G dy with
    | none => rw [q2] at h; exact h.elim
    | some b => rw [q2] at h; exact cat_lists I rx ry g r1 r2 rfl q2 h k
  | ref p =>
    dsimp only [rAdd] at h
    cases q1 : lsOf G (.ref p) with
    | none => rw [q1] at h; exact h.elim
    | some a =>
      rw [q1] at h
      cases q2 : lsOf G dy with
      | none => rw [q2] at h; exact h.elim
      | some b => rw [q2] at h; exact cat_lists I rx ry g r1 r2 q1 q2 h k
  | _ => exact h.elim
@[simp] def rInt (C : Int → Int → Prop) (f : Int → Int → D) : DR2 := fun x y G Q => match x with
  | .int i => (match y with
    | .int j => C i j ∧ Q (f i j) G
    | _ => False)
  | _ => False
theorem o_int {f : Value → Value → Sem Value} {C : Int → Int → Prop} {g : Int → Int → Int} (ho : OpR X f (rI C fun i j => .int (g i j))) : DOp X f (rInt C fun i j => .int (g i j)) := by
  intro pins s σ H x y v u Q I rx ry ⟨G, dx, dy, q, g, r1, r2, h, k⟩
  cases dx with
  | int i =>
    cases dy with
    | int j =>
      cases rv_int r1; cases rv_int r2
      exact ho pins s σ H _ _ v u Q I rx ry ⟨i, j, rfl, rfl, h.1, k _ _ H G (Ext.refl G H) g int_rv h.2⟩
    | _ => exact h.elim
  | _ => exact h.elim
@[simp] def rInt0 (f : Int → Int → D) : DR2 := fun x y G Q => match x with
  | .int i => (match y with
    | .int j => Q (f i j) G
    | _ => False)
  | _ => False
theorem o_sub : DOp X (binaryOp .Sub) (rInt0 fun i j => .int (i - j)) := by
  intro pins s σ H x y v u Q I rx ry ⟨G, dx, dy, q, g, r1, r2, h, k⟩
  cases dx with
  | int i =>
    cases dy with
    | int j =>
      cases rv_int r1; cases rv_int r2
      exact op_sub pins s σ H _ _ v u Q I rx ry ⟨i, j, rfl, rfl, k _ _ H G (Ext.refl G H) g int_rv h⟩
    | _ => exact h.elim
  | _ => exact h.elim
theorem o_cmpI {f : Value → Value → Sem Value} {p : Int → Int → Bool} (ho : OpR X f (rI0 fun i j => .bl (p i j))) : DOp X f (rInt0 fun i j => .bl (p i j)) := by
  intro pins s σ H x y v u Q I rx ry ⟨G, dx, dy, q, g, r1, r2, h, k⟩
  cases dx with
  | int i =>
    cases dy with
    | int j =>
      cases rv_int r1; cases rv_int r2
      exact ho pins s σ H _ _ v u Q I rx ry ⟨i, j, rfl, rfl, k _ _ H G (Ext.refl G H) g bl_rv h⟩
    | _ => exact h.elim
  | _ => exact h.elim
abbrev rLt : DR2 := rInt0 fun i j => .bl (decide (i < j))
abbrev rLe : DR2 := rInt0 fun i j => .bl (decide (i ≤ j))
abbrev rGt : DR2 := rInt0 fun i j => .bl (decide (j < i))
abbrev rGe : DR2 := rInt0 fun i j => .bl (decide (j ≤ i))
theorem o_lt : DOp X (compareOp .Lt) rLt := o_cmpI op_lt
theorem o_le : DOp X (compareOp .LtE) rLe := o_cmpI op_le
theorem o_gt : DOp X (compareOp .Gt) rGt := o_cmpI op_gt
theorem o_ge : DOp X (compareOp .GtE) rGe := o_cmpI op_ge
abbrev rMod : DR2 := rInt (fun _ j => 0 < j) fun i j => .int (i % j)
abbrev rFdiv : DR2 := rInt CDiv fun i j => .int (i / j)
abbrev rPow : DR2 := rInt CPow fun i j => .int (i ^ j.toNat)
abbrev rSub : DR2 := rInt0 fun i j => .int (i - j)
theorem o_mod : DOp X (binaryOp .Mod) rMod := o_int op_mod
theorem o_fdiv : DOp X (binaryOp .FloorDiv) rFdiv := o_int op_fdiv
theorem o_pow : DOp X (binaryOp .Pow) rPow := o_int op_pow
end
section
open PySem.Spec PyProof.Rows
theorem tuple_mul0 (l : Addr) (items : Array Value) (n : Nat) (dd : Option Addr) (sl : Array (Option Value)) (x : Int) (u : Tok) (c0 : (decide (x < -(2 ^ 63)) || decide (x ≥ 2 ^ 63)) = false) (c1 : (items.isEmpty || x == 1) = false) (c2 : (decide (x ≤ 0) || items.isEmpty) = true) :
    Meets (Builtin.«tuple.__mul__» ⟨[.ref l, .int x u], []⟩) (fun _ R s => s.heap.get? l = some { cls := .type "tuple", dict := dd, data := .seq items n, slots := sl } ∧
      R (.ok (.ret (Value.ref s.heap.objs.size))) { s with heap := s.heap.push { cls := Value.type "tuple", data := Data.seq #[] }, toks := s.toks }) :=
  .of_wp fun prog w A R s h => by
    obtain ⟨hp, g, d, tk, os⟩ := s
    obtain ⟨hl, h⟩ := h
    have f1 := AutoSeq1.idx_int
    wp_walk using wpAny_loadPart' hl
    repeat (first
      | (refine wpAny_ite_false (decide_eq_false (by rw [c0]; exact Bool.false_ne_true)) ?_; wp_walk using wpAny_loadPart' hl)
      | (refine wpAny_ite_false (decide_eq_false (by rw [c1]; exact Bool.false_ne_true)) ?_; wp_walk using wpAny_loadPart' hl)
      | (refine wpAny_ite_true (decide_eq_true c2) ?_; wp_walk using wpAny_loadPart' hl))
    exact ⟨_, rfl, h⟩
theorem tuple_mul1 (l : Addr) (items : Array Value) (n : Nat) (dd : Option Addr) (sl : Array (Option Value)) (x : Int) (u : Tok) (c0 : (decide (x < -(2 ^ 63)) || decide (x ≥ 2 ^ 63)) = false) (c1 : (items.isEmpty || x == 1) = true) :
    Meets (Builtin.«tuple.__mul__» ⟨[.ref l, .int x u], []⟩) (fun _ R s => s.heap.get? l = some { cls := .type "tuple", dict := dd, data := .seq items n, slots := sl } ∧
      R (.ok (.ret (Value.ref l))) s) :=
  .of_wp fun prog w A R s h => by
    obtain ⟨hp, g, d, tk, os⟩ := s
    obtain ⟨hl, h⟩ := h
    have f1 := AutoSeq1.idx_int
    wp_walk using wpAny_loadPart' hl
    repeat (first
      | (refine wpAny_ite_false (decide_eq_false (by rw [c0]; exact Bool.false_ne_true)) ?_; wp_walk using wpAny_loadPart' hl)
      | (refine wpAny_ite_true (decide_eq_true c1) ?_; wp_walk using wpAny_loadPart' hl))
    exact ⟨_, rfl, h⟩
end
end Dl
namespace Dl
open PySem L2
section
open PySem.Spec PyProof.Rows
variable {X : Cx}
theorem tup_rep {pins : List (Addr × Obj)} {s : Shared} {σ : L2.St} {H : Hp} {l : Addr} {xs : List V} {k : Int} {t : Tok} {Q : VK} (I : Inv X pins σ H s) (hT : SqT X.K H l xs) (hk : -(2 ^ 63) ≤ k ∧ k < 2 ^ 63)
    (h : (xs = [] ∨ k = 1 → Q (.ref l) H) ∧ (xs ≠ [] → k ≤ 0 → ∀ p, H p = none → Q (.ref p) (upd H p (.tup [])))) (hc : xs = [] ∨ k ≤ 1) : wpAny (model X.prog X.w) X.A (binaryOp .Mult (.ref l) (.int k t)) (EP X pins σ Q) X.xe s := by
  obtain ⟨its, r, ⟨⟨cls, dd, data, sl⟩, ho, hcl, n, hd⟩, hs⟩ := I.tuple hT
  simp only at hcl hd
  subst hcl hd
  have hle : its.length = xs.length := r.length.symm
  have c0 : (decide (k < -(2 ^ 63)) || decide (k ≥ 2 ^ 63)) = false := by
    rw [decide_eq_false (by omega), decide_eq_false (by omega)] <;> rfl
  by_cases c1 : (its.toArray.isEmpty || k == 1) = true
  · refine wpAny_binaryOp_repeat_ref (T := "tuple") (U := "int") (by decide) ⟨_, ho, rfl⟩ (fun s' => typeIs_int s' k t) noFill_tuple_mul F.fills_int_mul F.slot_int_rmul repeat_tuple F.slot_int_index.lookup
      (call_meets F.slot_int_rmul (typeIs_int s k t) F.entry_int_rmul (F.args_int_rmul_2 _ _) (int_rmul_tuple k t l its.toArray n dd sl)
        ⟨ho, rfl, ⟨_, ho, rfl⟩, call_meets F.slot_tuple_mul ⟨_, ho, rfl⟩ F.entry_tuple_mul (F.args_tuple_mul_2 _ _) (tuple_mul1 l its.toArray n dd sl k t c0 c1) ⟨ho, ?_⟩⟩)
    refine ⟨.ref l, H, I, rfl, h.1 ?_⟩
    rw [Bool.or_eq_true] at c1
    rcases c1 with c1 | c1
    · refine .inl (List.eq_nil_of_length_eq_zero ?_)
      rw [← hle]
      simpa using c1
    · exact .inr (eq_of_beq c1)
  · have c1' : (its.toArray.isEmpty || k == 1) = false := by simpa using c1
    have hne : xs ≠ [] := fun e => by
      apply c1
      rw [e] at hle
      have : its = [] := List.eq_nil_of_length_eq_zero hle
      subst this
      rfl
    have hk1 : k ≠ 1 := fun e => by
      apply c1
      subst e
      simp
    have hk0 : k ≤ 0 := by
      rcases hc with e | e
      · exact absurd e hne
      · omega
    have c2 : (decide (k ≤ 0) || its.toArray.isEmpty) = true := by rw [decide_eq_true hk0] <;> rfl
    refine wpAny_binaryOp_repeat_ref (T := "tuple") (U := "int") (by decide) ⟨_, ho, rfl⟩ (fun s' => typeIs_int s' k t) noFill_tuple_mul F.fills_int_mul F.slot_int_rmul repeat_tuple F.slot_int_index.lookup
      (call_meets F.slot_int_rmul (typeIs_int s k t) F.entry_int_rmul (F.args_int_rmul_2 _ _) (int_rmul_tuple k t l its.toArray n dd sl)
        ⟨ho, rfl, ⟨_, ho, rfl⟩, call_meets F.slot_tuple_mul ⟨_, ho, rfl⟩ F.entry_tuple_mul (F.args_tuple_mul_2 _ _) (tuple_mul0 l its.toArray n dd sl k t c0 c1' c2) ⟨ho, ?_⟩⟩)
    have hf : H s.heap.objs.size = none := I.hok.fresh (Nat.le_refl _)
    refine ⟨.ref s.heap.objs.size, upd H s.heap.objs.size (.tup []), I.laid (t' := s.toks) (fun b u e => Heap.get?_push_of_some _ e) (Nat.le_refl _) ?_, rfl, h.2 hne hk0 _ hf⟩
    exact ⟨Nat.zero_le _, [], .nil, ⟨_, Heap.get?_push_size _ rfl, rfl, _, rfl⟩⟩
end
@[simp] def rRepL (G : GH) (Q : DK) (a : List D) (y : D) : Prop := match y with
  | .int k => -(2 ^ 63) ≤ k ∧ k < 2 ^ 63 ∧ a.length * k.toNat ≤ sizeLine ∧ ∀ p, G p = none → Q (.ref p) (updG G p (.lst (List.replicate k.toNat a).flatten))
  | _ => False
@[simp] def rMul : DR2 := fun x y G Q => match x with
  | .int i => (match y with
    | .int j => CMul i j ∧ Q (.int (i * j)) G
    | _ => False)
  | .tup a => (match y with
    | .int k => -(2 ^ 63) ≤ k ∧ k ≤ 1000 ∧ (a.length ≤ 1000 ∨ k ≤ 1) ∧ Q (.tup (List.replicate k.toNat a).flatten) G
    | _ => False)
  | .lst a => rRepL G Q a y
  | .ref p => (match lsOf G (.ref p) with
    | some a => rRepL G Q a y
    | none => False)
  | _ => False
section
variable {X : Cx}
theorem rep_list {pins : List (Addr × Obj)} {s : Shared} {σ : St} {H : Hp} {x y : V} {v u : Value} {Qv : VK} {G : GH} {dx dy : D} {q : DK} {a : List D} (I : Inv X pins σ H s) (rx : RelV x v) (ry : RelV y u) (g : GOk X.K G H) (r1 : RepV X.K G H dx x) (r2 : RepV X.K G H dy y)
    (ha : lsOf G dx = some a) (h : rRepL G q a dy) (k : ∀ v d H' G', Ext G H G' H' → GOk X.K G' H' → RepV X.K G' H' d v → q d G' → Qv v H') : wpAny (model X.prog X.w) X.A (binaryOp .Mult v u) (EP X pins σ Qv) X.xe s := by
  obtain ⟨l, xs, rfl, h1, l1⟩ := ls_at g r1 ha
  cases dy with
  | int j =>
    cases rv_int r2
    obtain ⟨h2, h3, h4, h5⟩ := h
    refine op_rep pins s σ H _ _ v u Qv I rx ry ⟨l, j, xs, rfl, rfl, h1, h2, h3, by rw [l1.length]; exact h4, fun p hp => ?_⟩
    obtain ⟨e, g', rv⟩ := new_lst g hp (l1.rep j.toNat)
    exact k _ _ _ _ e g' rv (h5 p (g.fresh hp))
  | _ => exact h.elim
theorem o_mul : DOp X (binaryOp .Mult) rMul := by
  intro pins s σ H x y v u Q I rx ry ⟨G, dx, dy, q, g, r1, r2, h, k⟩
  cases dx with
  | int i =>
    cases dy with
    | int j =>
      cases rv_int r1; cases rv_int r2
      exact op_mul pins s σ H _ _ v u Q I rx ry ⟨i, j, rfl, rfl, h.1, k _ _ H G (Ext.refl G H) g int_rv h.2⟩
    | _ => exact h.elim
  | tup a =>
    cases dy with
    | int j =>
      obtain ⟨l, xs, rfl, h1, l1⟩ := tp_at r1
      cases rv_int r2
      obtain ⟨h2, h3, h4, h5⟩ := h
      by_cases hc : xs = [] ∨ j ≤ 1
      · cases rx
        obtain ⟨t, rfl⟩ := ry
        refine tup_rep I h1 ⟨h2, by omega⟩ ⟨fun z => ?_, fun hne h0 p hp => ?_⟩ hc
        · refine k _ _ H G (Ext.refl G H) g ?_ h5
          have e : (List.replicate j.toNat a).flatten = a := by
            rcases z with z | z
            · have ea : a = [] := List.eq_nil_of_length_eq_zero (by rw [← l1.length, z]; rfl)
              subst ea
              simp
            · subst z
              simp
          rw [e]
          exact r1
        · have e : (List.replicate j.toNat a).flatten = [] := by
            have : j.toNat = 0 := by omega
            rw [this]; rfl
          rw [e] at h5
          obtain ⟨e1, g1, v1⟩ := new_tup (ds := []) (vs := []) g hp repL_nil
          exact k _ _ _ _ e1 g1 v1 h5
      · simp only [not_or] at hc
        refine op_repT pins s σ H _ _ v u Q I rx ry ⟨l, j, xs, rfl, rfl, h1, hc.1, by omega, h3, by rw [l1.length]; exact h4.resolve_right hc.2, fun p hp => ?_⟩
        obtain ⟨e1, g1, v1⟩ := new_tup g hp (l1.rep j.toNat)
        exact k _ _ _ _ e1 g1 v1 h5
    | _ => exact h.elim
  | lst a => exact rep_list I rx ry g r1 r2 rfl h k
  | ref p =>
    dsimp only [rMul] at h
    cases q1 : lsOf G (.ref p) with
    | none => rw [q1] at h; exact h.elim
    | some a => rw [q1] at h; exact rep_list I rx ry g r1 r2 q1 h k
  | _ => exact h.elim
end
mutual
def pyD : D → PyData
  | .non => .none
  | .bl b => .bool b
  | .int i => .int i
  | .str x => .str x
  | .tup ds => .tuple (pyDs ds)
  | .lst ds => .list (pyDs ds)
  | .byt _ => .none
  | .ref _ => .none
  | .scr _ => .none
  | .fn _ _ _ _ => .none
  | .exh _ _ _ _ _ => .none
def pyDs : List D → List PyData
  | [] => []
  | d :: ds => pyD d :: pyDs ds
end
mutual
def pureD : D → Bool
  | .non => true
  | .bl _ => true
  | .int _ => true
  | .str x => PyData.strOk x
  | .tup ds => pureDs ds
  | .lst ds => pureDs ds
  | _ => false
def pureDs : List D → Bool
  | [] => true
  | d :: ds => pureD d && pureDs ds
end
mutual
def depD : D → Nat
  | .tup ds => depDs ds + 1
  | .lst ds => depDs ds + 1
  | _ => 0
def depDs : List D → Nat
  | [] => 0
  | d :: ds => max (depD d) (depDs ds)
end
mutual
def eqvD : D → D → Bool
  | .non, .non => true
  | .bl a, .bl b => a == b
  | .bl a, .int j => (if a then 1 else 0) == j
  | .int i, .bl b => i == (if b then 1 else 0)
  | .int i, .int j => i == j
  | .str x, .str y => x == y
  | .tup a, .tup b => eqvDs a b
  | .lst a, .lst b => eqvDs a b
  | _, _ => false
def eqvDs : List D → List D → Bool
  | [], [] => true
  | x :: xs, y :: ys => eqvD x y && eqvDs xs ys
  | _, _ => false
end
mutual
theorem depth_py : ∀ d : D, (pyD d).depth = depD d
  | .non => by simp [pyD, depD, PyData.depth]
  | .bl _ => by simp [pyD, depD, PyData.depth]
  | .int _ => by simp [pyD, depD, PyData.depth]
  | .str _ => by simp [pyD, depD, PyData.depth]
  | .tup ds => by simp [pyD, depD, PyData.depth, depths_py ds]
  | .lst ds => by simp [pyD, depD, PyData.depth, depths_py ds]
  | .byt _ => by simp [pyD, depD, PyData.depth]
  | .ref _ => by simp [pyD, depD, PyData.depth]
  | .scr _ => by simp [pyD, depD, PyData.depth]
  | .fn _ _ _ _ => by simp [pyD, depD, PyData.depth]
  | .exh _ _ _ _ _ => by simp [pyD, depD, PyData.depth]
theorem depths_py : ∀ ds : List D, PyData.depthAll (pyDs ds) = depDs ds
  | [] => by simp [pyDs, depDs, PyData.depthAll]
  | d :: ds => by simp [pyDs, depDs, PyData.depthAll, depth_py d, depths_py ds]
end
mutual
theorem lay_py : ∀ d : D, pureD d = true → (pyD d).canLay0 = true
  | .non, _ => by simp [pyD, PyData.canLay0]
  | .bl _, _ => by simp [pyD, PyData.canLay0]
  | .int _, _ => by simp [pyD, PyData.canLay0]
  | .str x, h => by simpa [pyD, PyData.canLay0, pureD] using h
  | .tup ds, h => by simpa [pyD, PyData.canLay0] using lays_py ds (by simpa [pureD] using h)
  | .lst ds, h => by simpa [pyD, PyData.canLay0] using lays_py ds (by simpa [pureD] using h)
  | .byt _, h => by simp [pureD] at h
  | .ref _, h => by simp [pureD] at h
  | .scr _, h => by simp [pureD] at h
  | .fn _ _ _ _, h => by simp [pureD] at h
  | .exh _ _ _ _ _, h => by simp [pureD] at h
theorem lays_py : ∀ ds : List D, pureDs ds = true → PyData.canLayAll0 (pyDs ds) = true
  | [], _ => by simp [pyDs, PyData.canLayAll0]
  | d :: ds, h => by
    simp only [pureDs, Bool.and_eq_true] at h
    simp [pyDs, PyData.canLayAll0, lay_py d h.1, lays_py ds h.2]
end
mutual
theorem eqv_py : ∀ a b : D, pureD a = true → pureD b = true → PyData.eqv (pyD a) (pyD b) = eqvD a b
  | .tup xs, b, h, k => by
    cases b with
    | tup ys => simpa [pyD, PyData.eqv, eqvD] using eqvs_py xs ys (by simpa [pureD] using h) (by simpa [pureD] using k)
    | byt _ => simp [pureD] at k
    | ref _ => simp [pureD] at k
    | scr _ => simp [pureD] at k
    | fn _ _ _ _ => simp [pureD] at k
    | exh _ _ _ _ _ => simp [pureD] at k
    | _ => simp [pyD, PyData.eqv, eqvD]
  | .lst xs, b, h, k => by
    cases b with
    | lst ys => simpa [pyD, PyData.eqv, eqvD] using eqvs_py xs ys (by simpa [pureD] using h) (by simpa [pureD] using k)
    | byt _ => simp [pureD] at k
    | ref _ => simp [pureD] at k
    | scr _ => simp [pureD] at k
    | fn _ _ _ _ => simp [pureD] at k
    | exh _ _ _ _ _ => simp [pureD] at k
    | _ => simp [pyD, PyData.eqv, eqvD]
  | .non, b, h, k => by cases b <;> first | (simp [pureD] at k; done) | simp [pyD, PyData.eqv, eqvD]
  | .bl _, b, h, k => by cases b <;> first | (simp [pureD] at k; done) | simp [pyD, PyData.eqv, eqvD]
  | .int _, b, h, k => by cases b <;> first | (simp [pureD] at k; done) | simp [pyD, PyData.eqv, eqvD]
  | .str _, b, h, k => by
    cases b with
    | str _ => simp [pyD, PyData.eqv, eqvD]
    | byt _ => simp [pureD] at k
    | ref _ => simp [pureD] at k
    | scr _ => simp [pureD] at k
    | fn _ _ _ _ => simp [pureD] at k
    | exh _ _ _ _ _ => simp [pureD] at k
    | _ => simp [pyD, PyData.eqv, eqvD]
  | .byt _, _, h, _ => by simp [pureD] at h
  | .ref _, _, h, _ => by simp [pureD] at h
  | .scr _, _, h, _ => by simp [pureD] at h
  | .fn _ _ _ _, _, h, _ => by simp [pureD] at h
  | .exh _ _ _ _ _, _, h, _ => by simp [pureD] at h
theorem eqvs_py : ∀ a b : List D, pureDs a = true → pureDs b = true → PyData.eqvAll (pyDs a) (pyDs b) = eqvDs a b
  | [], [], _, _ => by simp [pyDs, PyData.eqvAll, eqvDs]
  | [], _ :: _, _, _ => by simp [pyDs, PyData.eqvAll, eqvDs]
  | _ :: _, [], _, _ => by simp [pyDs, PyData.eqvAll, eqvDs]
  | x :: xs, y :: ys, h, k => by
    simp only [pureDs, Bool.and_eq_true] at h k
    simp [pyDs, PyData.eqvAll, eqvDs, eqv_py x y h.1 k.1, eqvs_py xs ys h.2 k.2]
end
mutual
theorem dp_of {K : PySem.W.Frag} {G : GH} {H : Hp} : ∀ {d : D} {v : V}, RepV K G H d v → pureD d = true → Dp K H v (pyD d)
  | .non, v, h, _ => by cases rv_non h; simp only [pyD]; exact .non
  | .bl b, v, h, _ => by cases rv_bl h; simp only [pyD]; exact .bl b
  | .int i, v, h, _ => by cases rv_int h; simp only [pyD]; exact .int i
  | .str x, v, h, _ => by cases rv_str h; simp only [pyD]; exact .str x
  | .tup ds, v, h, k => by
    obtain ⟨a, xs, rfl, t, rl⟩ := tp_at h
    simp only [pyD]
    exact .tup t (dps_of rl (by simpa [pureD] using k))
  | .lst ds, v, h, k => by
    unfold RepV at h
    obtain ⟨a, xs, rfl, t, rl⟩ := h
    simp only [pyD]
    exact .lst t.sq (dps_of rl (by simpa [pureD] using k))
  | .byt _, _, _, k => by simp [pureD] at k
  | .ref _, _, _, k => by simp [pureD] at k
  | .scr _, _, _, k => by simp [pureD] at k
  | .fn _ _ _ _, _, _, k => by simp [pureD] at k
  | .exh _ _ _ _ _, _, _, k => by simp [pureD] at k
theorem dps_of {K : PySem.W.Frag} {G : GH} {H : Hp} : ∀ {ds : List D} {vs : List V}, RepL K G H ds vs → pureDs ds = true → DpAll K H vs (pyDs ds)
  | [], vs, h, _ => by unfold RepL at h; subst h; simp only [pyDs]; exact .nil
  | d :: ds, vs, h, k => by
    unfold RepL at h
    obtain ⟨x, r, rfl, h1, h2⟩ := h
    simp only [pureDs, Bool.and_eq_true] at k
    simp only [pyDs]
    exact .cons (dp_of h1 k.1) (dps_of h2 k.2)
end
@[simp] def vw (G : GH) : D → D
  | .ref a => (match G a with
    | some (.lst ds) => .lst ds
    | _ => .ref a)
  | d => d
theorem vw_dp {K : PySem.W.Frag} {G : GH} {H : Hp} {d : D} {v : V} (g : GOk K G H) (r : RepV K G H d v) (h : pureD (vw G d) = true) : Dp K H v (pyD (vw G d)) := by
  cases d with
  | ref a =>
    cases rv_ref r
    dsimp only [vw] at h ⊢
    cases q : G a with
    | none => rw [q] at h; simp [pureD] at h
    | some o =>
      rw [q] at h
      cases o with
      | lst ds =>
        obtain ⟨xs, h1, rl⟩ := g a _ q
        simp only [pyD]
        exact .lst (SqL.of h1) (dps_of rl (by simpa [pureD] using h))
      | dct _ => simp [pureD] at h
      | raw _ => simp [pureD] at h
      | ins _ _ => simp [pureD] at h
      | dtp _ => simp [pureD] at h
      | tab _ => simp [pureD] at h
      | slt _ _ => simp [pureD] at h
      | dny _ _ _ => simp [pureD] at h
  | _ => exact dp_of r h
def okD (d : D) : Prop := pureD d = true ∧ depD d ≤ 64
theorem okD.shaped {d : D} (h : okD d) : SeqAt.shaped (pyD d) = true := by
  unfold SeqAt.shaped
  rw [Bool.and_eq_true]
  exact ⟨lay_py d h.1, decide_eq_true (by rw [depth_py]; exact h.2)⟩
@[simp] def rCmpG (f : Bool → Bool) (a b : D) (G : GH) (Q : DK) : Prop := okD a ∧ okD b ∧ Q (.bl (f (eqvD a b))) G
@[simp] def rCmp (f : Bool → Bool) : DR2 := fun x y G Q => match vw G x with
  | .str a => (match vw G y with
    | .str b => Q (.bl (f (decide (a = b)))) G
    | b => rCmpG f (.str a) b G Q)
  | .int a => (match vw G y with
    | .int b => Q (.bl (f (decide (a = b)))) G
    | b => rCmpG f (.int a) b G Q)
  | a => rCmpG f a (vw G y) G Q
abbrev rEqv : DR2 := rCmp id
abbrev rNev : DR2 := rCmp not
section
variable {X : Cx}
theorem rCmp_gen {f : Bool → Bool} {x y : D} {G : GH} {Q : DK} (h : rCmp f x y G Q) : (∃ a b, x = .str a ∧ y = .str b ∧ Q (.bl (f (decide (a = b)))) G) ∨ (∃ a b, x = .int a ∧ y = .int b ∧ Q (.bl (f (decide (a = b)))) G) ∨ rCmpG f (vw G x) (vw G y) G Q := by
  have hv : ∀ (d : D) (s : Str), vw G d = .str s → d = .str s := fun d s e => by
    cases d with
    | ref a => dsimp only [vw] at e; split at e <;> cases e
    | _ => exact e
  have hi : ∀ (d : D) (s : Int), vw G d = .int s → d = .int s := fun d s e => by
    cases d with
    | ref a => dsimp only [vw] at e; split at e <;> cases e
    | _ => exact e
  dsimp only [rCmp] at h
  cases e1 : vw G x with
  | str a =>
    rw [e1] at h
    cases e2 : vw G y with
    | str b => rw [e2] at h; exact .inl ⟨a, b, hv _ _ e1, hv _ _ e2, h⟩
    | _ => rw [e2] at h; exact .inr (.inr h)
  | int a =>
    rw [e1] at h
    cases e2 : vw G y with
    | int b => rw [e2] at h; exact .inr (.inl ⟨a, b, hi _ _ e1, hi _ _ e2, h⟩)
    | _ => rw [e2] at h; exact .inr (.inr h)
  | _ => rw [e1] at h; exact .inr (.inr h)
theorem o_eq (hu : X.A.units + 64 < cLine) : DOp X (compareOp .Eq) rEqv := by
  intro pins s σ H x y v u Q I rx ry ⟨G, dx, dy, q, g, r1, r2, h, k⟩
  rcases rCmp_gen h with ⟨a, b, rfl, rfl, h⟩ | ⟨a, b, rfl, rfl, h⟩ | ⟨h1, h2, h3⟩
  · cases rv_str r1; cases rv_str r2
    refine op_eq pins s σ H _ _ v u Q I rx ry ⟨rfl, k _ _ H G (Ext.refl G H) g ?_ h⟩
    rw [show decide (V.str a = V.str b) = decide (a = b) by simp]
    exact bl_rv
  · cases rv_int r1; cases rv_int r2
    refine op_eq pins s σ H _ _ v u Q I rx ry ⟨rfl, k _ _ H G (Ext.refl G H) g ?_ h⟩
    rw [show decide (V.int a = V.int b) = decide (a = b) by simp]
    exact bl_rv
  · refine op_eqD hu pins s σ H _ _ v u Q I rx ry ⟨_, _, vw_dp g r1 h1.1, vw_dp g r2 h2.1, h1.shaped, h2.shaped, k _ _ H G (Ext.refl G H) g ?_ h3⟩
    rw [eqv_py _ _ h1.1 h2.1]
    exact bl_rv
theorem o_ne (hu : X.A.units + 64 < cLine) : DOp X (compareOp .NotEq) rNev := by
  intro pins s σ H x y v u Q I rx ry ⟨G, dx, dy, q, g, r1, r2, h, k⟩
  rcases rCmp_gen h with ⟨a, b, rfl, rfl, h⟩ | ⟨a, b, rfl, rfl, h⟩ | ⟨h1, h2, h3⟩
  · cases rv_str r1; cases rv_str r2
    refine op_ne pins s σ H _ _ v u Q I rx ry ⟨rfl, k _ _ H G (Ext.refl G H) g ?_ h⟩
    rw [show decide (V.str a = V.str b) = decide (a = b) by simp]
    exact bl_rv
  · cases rv_int r1; cases rv_int r2
    refine op_ne pins s σ H _ _ v u Q I rx ry ⟨rfl, k _ _ H G (Ext.refl G H) g ?_ h⟩
    rw [show decide (V.int a = V.int b) = decide (a = b) by simp]
    exact bl_rv
  · refine op_neD hu pins s σ H _ _ v u Q I rx ry ⟨_, _, vw_dp g r1 h1.1, vw_dp g r2 h2.1, h1.shaped, h2.shaped, k _ _ H G (Ext.refl G H) g ?_ h3⟩
    rw [eqv_py _ _ h1.1 h2.1]
    exact bl_rv
end
end Dl
namespace Dl
open PySem L2
def flatD : D → Bool
  | .non => true
  | .bl _ => true
  | .int _ => true
  | .str _ => true
  | _ => false
theorem flat_rep {K : PySem.W.Frag} {G : GH} {H : Hp} {d : D} {v : V} (h : flatD d = true) (r : RepV K G H d v) : flatV v = true ∧ ∀ (e : D) (w : V), flatD e = true → RepV K G H e w → eqV w v = eqvD e d := by
  have key : ∀ (e : D) (w : V), flatD e = true → RepV K G H e w → (e = .non ∧ w = .non) ∨ (∃ b, e = .bl b ∧ w = .bl b) ∨ (∃ i, e = .int i ∧ w = .int i) ∨ ∃ x, e = .str x ∧ w = .str x := by
    intro e w he re
    cases e with
    | non => exact .inl ⟨rfl, rv_non re⟩
    | bl b => exact .inr (.inl ⟨b, rfl, rv_bl re⟩)
    | int b => exact .inr (.inr (.inl ⟨b, rfl, rv_int re⟩))
    | str b => exact .inr (.inr (.inr ⟨b, rfl, rv_str re⟩))
    | _ => simp [flatD] at he
  rcases key d v h r with ⟨rfl, rfl⟩ | ⟨b, rfl, rfl⟩ | ⟨b, rfl, rfl⟩ | ⟨b, rfl, rfl⟩ <;> refine ⟨rfl, fun e w he re => ?_⟩ <;>
    rcases key e w he re with ⟨rfl, rfl⟩ | ⟨c, rfl, rfl⟩ | ⟨c, rfl, rfl⟩ | ⟨c, rfl, rfl⟩ <;> simp [eqV, eqvD]
def inD (x : D) (ds : List D) : Bool := ds.any fun y => eqvD y x
@[simp] def rInn (f : Bool → Bool) : DR2 := fun x y G Q => match sqOf G y with
  | some ds => flatD x = true ∧ ds.all flatD = true ∧ Q (.bl (f (inD x ds))) G
  | none => False
theorem flats_rep {K : PySem.W.Frag} {G : GH} {H : Hp} {d : D} {v : V} (h : flatD d = true) (r : RepV K G H d v) : ∀ {ds : List D} {xs : List V}, RepL K G H ds xs → ds.all flatD = true → xs.all flatV = true ∧ inV v xs = inD d ds
  | [], xs, rl, _ => by unfold RepL at rl; subst rl; exact ⟨rfl, rfl⟩
  | e :: ds, xs, rl, ha => by
    unfold RepL at rl
    obtain ⟨x, t, rfl, h1, h2⟩ := rl
    simp only [List.all_cons, Bool.and_eq_true] at ha
    obtain ⟨i1, i2⟩ := flats_rep h r h2 ha.2
    obtain ⟨f1, _⟩ := flat_rep ha.1 h1
    have f2 := (flat_rep h r).2 e x ha.1 h1
    refine ⟨by simp [f1, i1], ?_⟩
    unfold inV inD at i2 ⊢
    simp only [List.any_cons]
    rw [f2, i2]
section
variable {X : Cx}
theorem o_in : DOp X (compareOp .In) (rInn id) := by
  intro pins s σ H x y v u Q I rx ry ⟨G, dx, dy, q, g, r1, r2, h, k⟩
  dsimp only [rInn] at h
  cases e : sqOf G dy with
  | none => rw [e] at h; exact h.elim
  | some ds =>
    rw [e] at h
    obtain ⟨a, xs, rfl, hs, rl⟩ := sq_at g r2 e
    obtain ⟨h1, h2, h3⟩ := h
    obtain ⟨f1, f2⟩ := flats_rep h1 r1 rl h2
    refine op_in_seq pins s σ H _ _ v u Q I rx ry ⟨a, xs, rfl, hs, (flat_rep h1 r1).1, f1, k _ _ H G (Ext.refl G H) g ?_ h3⟩
    rw [f2]
    exact bl_rv
end
@[simp] def isNonD : D → Bool
  | .non => true
  | _ => false
@[simp] def rIsN (f : Bool → Bool) : DR2 := fun x y G Q => match y with
  | .non => Q (.bl (f (isNonD x))) G
  | _ => False
section
variable {X : Cx}
end
theorem atI_rep {K : PySem.W.Frag} {G : GH} {H : Hp} {ds : List D} {xs : List V} {i : Int} {d : D} (rl : RepL K G H ds xs) (h : atI ds i = some d) : ∃ v, atI xs i = some v ∧ RepV K G H d v := by
  unfold atI at h ⊢
  rw [rl.length]
  cases e : ixN ds.length i with
  | none => rw [e] at h; cases h
  | some j =>
    rw [e] at h
    exact rl.get h
@[simp] def rIx : DR2 := fun x y G Q => match y with
  | .int i => (match sqOf G x with
    | some ds => (match atI ds i with
      | some d => Q d G
      | none => False)
    | none => False)
  | _ => False
section
variable {X : Cx}
theorem x_ix : IxR X (upR X.K rIx) := by
  intro ve sx pins s σ H x y v u Q I rx ry ⟨G, dx, dy, q, g, r1, r2, h, k⟩ hsub
  cases dy with
  | int i =>
    cases rv_int r2
    dsimp only [rIx] at h
    cases e : sqOf G dx with
    | none => rw [e] at h; exact h.elim
    | some ds =>
      rw [e] at h
      dsimp only at h
      obtain ⟨a, xs, rfl, hs, rl⟩ := sq_at g r1 e
      cases e2 : atI ds i with
      | none => rw [e2] at h; exact h.elim
      | some d =>
        rw [e2] at h
        obtain ⟨w, hw, rw'⟩ := atI_rep rl e2
        refine (ix_list.or ix_tup) ve sx pins s σ H _ _ v u Q I rx ry ?_ hsub
        rcases hs with hs | hs
        · exact .inl ⟨a, xs, i, w, rfl, rfl, hs, hw, k _ _ H G (Ext.refl G H) g rw' h⟩
        · exact .inr ⟨a, xs, i, w, rfl, rfl, hs, hw, k _ _ H G (Ext.refl G H) g rw' h⟩
  | _ => exact h.elim
theorem de_ix {a b : Expr} {ta tb : DTE} {pos : Pos} (ha : DE X a ta) (hb : DE X b tb) (hs : PlainIx b := by exact fun _ _ => rfl) : DE X (.Subscript a b pos) (dOp rIx ta tb) := (pe_ix x_ix ha hb hs).imp fun _ _ _ h => up_op h
end
@[simp] def keyD : D → Option Key
  | .int i => some (.inl i)
  | .str x => some (.inr x)
  | _ => none
def getK : List (Key × D) → Key → Option D
  | [], _ => none
  | p :: r, k => if p.1 = k then some p.2 else getK r k
def putD (kvs : List (Key × D)) (k : Key) (d : D) : List (Key × D) :=
  if (kvs.any fun kv => decide (kv.1 = k)) = true then kvs.map (fun kv => if kv.1 = k then (kv.1, d) else kv) else kvs ++ [(k, d)]
theorem key_rep {K : PySem.W.Frag} {G : GH} {H : Hp} {d : D} {v : V} {k : Key} (r : RepV K G H d v) (h : keyD d = some k) : v = kV k := by
  cases d with
  | int i => simp only [keyD, Option.some.injEq] at h; subst h; exact rv_int r
  | str i => simp only [keyD, Option.some.injEq] at h; subst h; exact rv_str r
  | _ => simp [keyD] at h
theorem getK_rep {K : PySem.W.Frag} {G : GH} {H : Hp} {k : Key} : ∀ {kvs : List (Key × D)} {ws : List (Key × V)}, ws.map (·.1) = kvs.map (·.1) → RepL K G H (kvs.map (·.2)) (ws.map (·.2)) → match getK kvs k with
    | some d => ∃ v, valV ws k = some v ∧ RepV K G H d v
    | none => valV ws k = none
  | [], [], _, _ => rfl
  | [], _ :: _, e, _ => by simp at e
  | _ :: _, [], e, _ => by simp at e
  | p :: kvs, q :: ws, e, rl => by
    simp only [List.map_cons, List.cons.injEq] at e
    simp only [List.map_cons] at rl
    unfold RepL at rl
    obtain ⟨x, r, e2, h1, h2⟩ := rl
    simp only [List.cons.injEq] at e2
    obtain ⟨e3, e4⟩ := e2
    subst e3
    rw [← e4] at h2
    have ih := getK_rep (k := k) e.2 h2
    unfold getK
    by_cases hk : p.1 = k
    · rw [if_pos hk]
      exact ⟨q.2, valV_pos (e.1.trans hk), h1⟩
    · rw [if_neg hk]
      cases q2 : getK kvs k with
      | none => rw [q2] at ih; exact (valV_neg (fun z => hk (e.1.symm.trans z))).trans ih
      | some d =>
        rw [q2] at ih
        obtain ⟨v, i1, i2⟩ := ih
        exact ⟨v, (valV_neg (fun z => hk (e.1.symm.trans z))).trans i1, i2⟩
theorem putD_rep {K : PySem.W.Frag} {G : GH} {H : Hp} {k : Key} {d : D} {v : V} (rv : RepV K G H d v) {kvs : List (Key × D)} {ws : List (Key × V)} (e : ws.map (·.1) = kvs.map (·.1)) (rl : RepL K G H (kvs.map (·.2)) (ws.map (·.2))) :
    (putK ws k v).map (·.1) = (putD kvs k d).map (·.1) ∧ RepL K G H ((putD kvs k d).map (·.2)) ((putK ws k v).map (·.2)) := by
  have hany : (ws.any fun kv => decide (kv.1 = k)) = kvs.any fun kv => decide (kv.1 = k) := by
    have : ∀ (l : List (Key × V)), (l.any fun kv => decide (kv.1 = k)) = (l.map (·.1)).any fun z => decide (z = k) := fun l => by simp [List.any_map, Function.comp_def]
    have h2 : ∀ (l : List (Key × D)), (l.any fun kv => decide (kv.1 = k)) = (l.map (·.1)).any fun z => decide (z = k) := fun l => by simp [List.any_map, Function.comp_def]
    rw [this, h2, e]
  unfold putK putD
  rw [hany]
  by_cases ha : (kvs.any fun kv => decide (kv.1 = k)) = true
  · rw [if_pos ha, if_pos ha]
    clear hany ha
    induction kvs generalizing ws with
    | nil =>
      cases ws with
      | nil => exact ⟨rfl, repL_nil⟩
      | cons q ws => simp at e
    | cons p kvs ih =>
      cases ws with
      | nil => simp at e
      | cons q ws =>
        simp only [List.map_cons, List.cons.injEq] at e
        simp only [List.map_cons] at rl
        unfold RepL at rl
        obtain ⟨x, r, e2, h1, h2⟩ := rl
        simp only [List.cons.injEq] at e2
        obtain ⟨e3, e4⟩ := e2
        subst e3
        rw [← e4] at h2
        obtain ⟨i1, i2⟩ := ih e.2 h2
        simp only [List.map_cons]
        by_cases hk : p.1 = k
        · rw [if_pos hk, if_pos (e.1.trans hk)]
          exact ⟨by rw [i1, e.1], repL_cons rv i2⟩
        · rw [if_neg hk, if_neg (fun z => hk (e.1.symm.trans z))]
          exact ⟨by rw [i1, e.1], repL_cons h1 i2⟩
  · rw [if_neg ha, if_neg ha]
    simp only [List.map_append, List.map_cons, List.map_nil]
    exact ⟨by rw [e], rl.append (repL_one rv)⟩
@[simp] def dctP (G : GH) (x : D) (P : Addr → List (Key × D) → Prop) : Prop := match x with
  | .ref a => (match G a with
    | some (.dct kvs) => P a kvs
    | _ => False)
  | _ => False
@[simp] def keyP (y : D) (P : Key → Prop) : Prop := match keyD y with
  | some k => P k
  | none => False
@[simp] def dDGet (td ty : DTE) : DTE := fun ρ G Q => td ρ G fun x G1 => ty ρ G1 fun y G2 => dctP G2 x fun _ kvs => keyP y fun k => match getK kvs k with
  | some d => Q d G2
  | none => False
@[simp] def rDIn (f : Bool → Bool) : DR2 := fun y x G Q => dctP G x fun _ kvs => keyP y fun k => Q (.bl (f (getK kvs k).isSome)) G
@[simp] def sDct : DSet := fun o i d G Q => dctP G o fun a kvs => keyP i fun k => kvs.length < sizeLine ∧ Q (updG G a (.dct (putD kvs k d)))
theorem keyP_of {y : D} {P : Key → Prop} (h : keyP y P) : ∃ k, keyD y = some k ∧ P k := by
  unfold keyP at h
  split at h
  · exact ⟨_, by assumption, h⟩
  · exact h.elim
theorem dct_of {K : PySem.W.Frag} {G : GH} {H : Hp} {x : D} {v : V} {P : Addr → List (Key × D) → Prop} (g : GOk K G H) (r : RepV K G H x v) (h : dctP G x P) :
    ∃ a kvs ws, x = .ref a ∧ v = .ref a ∧ G a = some (.dct kvs) ∧ P a kvs ∧ H a = some (.dK ws) ∧ ws.map (·.1) = kvs.map (·.1) ∧ RepL K G H (kvs.map (·.2)) (ws.map (·.2)) := by
  cases x with
  | ref a =>
    dsimp only [dctP] at h
    cases q : G a with
    | none => rw [q] at h; exact h.elim
    | some o =>
      rw [q] at h
      cases o with
      | dct kvs =>
        obtain ⟨ws, h1, h2, h3⟩ := g a _ q
        exact ⟨a, kvs, ws, rfl, rv_ref r, q, h, h1, h2, h3⟩
      | _ => exact h.elim
  | _ => exact h.elim
section
variable {X : Cx}
theorem de_dget {o i : Expr} {td ty : DTE} {pos : Pos} (hu : X.A.units + 1 < cLine) (ho : DE X o td) (hi : DE X i ty) (hs : NoSl i := by exact fun _ _ => rfl) : DE X (.Subscript o i pos) (dDGet td ty) := by
  refine (pe_dget hu ho hi hs).imp fun σ H Q ⟨ρ, G, q, r, h, k⟩ => ?_
  refine ⟨ρ, G, _, r, h, fun x dx H1 G1 e1 r1 v1 h1 => ?_⟩
  refine ⟨ρ, G1, _, r1, h1, fun y dy H2 G2 e2 r2 v2 h2 => ?_⟩
  obtain ⟨a, kvs, ws, rfl, rfl, hg, h2, w1, w2, w3⟩ := dct_of r2.gok (v1.ext e2) h2
  obtain ⟨kk, hk, h2⟩ := keyP_of h2
  cases key_rep v2 hk
  have gr := getK_rep (k := kk) w2 w3
  cases hd : getK kvs kk with
  | none => rw [hd] at h2; exact h2.elim
  | some d =>
    rw [hd] at h2 gr
    obtain ⟨w, e3, rw'⟩ := gr
    refine ⟨a, w, rfl, ?_, k w d H2 G2 (e1.trans e2) r2 rw' h2⟩
    rw [← e3]
    exact DGet.k w1
theorem set_dct (hu : X.A.units + 1 < cLine) : PSet X (upSet X.K sDct) := by
  intro pins s σ H o i v ov iv u Q I ro ri rv ⟨G, dO, di, d, q, g, r1, r2, r3, h, k⟩
  obtain ⟨a, kvs, ws, rfl, rfl, hg, h2, w1, w2, w3⟩ := dct_of g r1 h
  obtain ⟨kk, hk, h2⟩ := keyP_of h2
  cases key_rep r2 hk
  obtain rfl : ov = Value.ref a := ro
  have hl : ws.length = kvs.length := by simpa using congrArg List.length w2
  have e : Ext G H (updG G a (.dct (putD kvs kk d))) (upd H a (.dK (putK ws kk v))) := Ext.write hg
  obtain ⟨p1, p2⟩ := putD_rep (k := kk) r3 w2 w3
  refine d_setItem hu I (DPut.k (k := kk) w1 (by rw [hl]; exact h2.1)) ri rv fun s4 I4 => ⟨_, I4, ?_⟩
  exact k _ _ e (g.put e ⟨_, upd_same, p1, p2.ext e⟩) h2.2
end
@[simp] def lstP (G : GH) (x : D) (P : Addr → List D → Prop) : Prop := match x with
  | .ref a => (match G a with
    | some (.lst ds) => P a ds
    | _ => False)
  | _ => False
@[simp] def sLst : DSet := fun o i d G Q => lstP G o fun a ds => match i with
  | .int k => (match ixN ds.length k with
    | some j => Q (updG G a (.lst (ds.set j d)))
    | none => False)
  | _ => False
theorem lst_of {K : PySem.W.Frag} {G : GH} {H : Hp} {x : D} {v : V} {P : Addr → List D → Prop} (g : GOk K G H) (r : RepV K G H x v) (h : lstP G x P) : ∃ a ds xs, x = .ref a ∧ v = .ref a ∧ G a = some (.lst ds) ∧ P a ds ∧ H a = some (.lst xs) ∧ RepL K G H ds xs := by
  cases x with
  | ref a =>
    dsimp only [lstP] at h
    cases q : G a with
    | none => rw [q] at h; exact h.elim
    | some o =>
      rw [q] at h
      cases o with
      | lst ds =>
        obtain ⟨ws, h1, h2⟩ := g a _ q
        exact ⟨a, ds, ws, rfl, rv_ref r, q, h, h1, h2⟩
      | _ => exact h.elim
  | _ => exact h.elim
section
variable {X : Cx}
theorem set_lst : PSet X (upSet X.K sLst) := by
  intro pins s σ H o i v ov iv u Q I ro ri rv ⟨G, dO, di, d, q, g, r1, r2, r3, h, k⟩
  obtain ⟨a, ds, xs, rfl, rfl, hg, h2, w1, w2⟩ := lst_of g r1 h
  cases di with
  | int j =>
    cases rv_int r2
    dsimp only at h2
    cases e : ixN ds.length j with
    | none => rw [e] at h2; exact h2.elim
    | some n =>
      rw [e] at h2
      refine set_list pins s σ H _ _ _ ov iv u Q I ro ri rv ⟨a, xs, j, n, rfl, rfl, w1, by rw [w2.length]; exact e, ?_⟩
      obtain ⟨e1, g1⟩ := put_lst g hg (w2.set r3 n)
      exact k _ _ e1 g1 h2
  | _ => exact h2.elim
end
abbrev DTO := DSt → GH → (Option Int → GH → Prop) → Prop
def upO (K : PySem.W.Frag) (t : DTO) : TO := fun σ H Qv => ∃ ρ G Q, DRel K σ H ρ G ∧ t ρ G Q ∧ ∀ o H' G', Ext G H G' H' → DRel K σ H' ρ G' → Q o G' → Qv o H'
abbrev DO' (X : Cx) (e : Option Expr) (t : DTO) : Prop := PO X e (upO X.K t)
@[simp] def dNoP : DTO := fun _ G Q => Q none G
@[simp] def dP (t : DTE) : DTO := fun ρ G Q => t ρ G fun d G1 => match d with
  | .int i => Q (some i) G1
  | _ => False
def cutD (xs : List D) (lo hi : Option Int) : List D := (xs.drop (HT.sIx xs.length 0 lo)).take (HT.sIx xs.length xs.length hi - HT.sIx xs.length 0 lo)
theorem cut_rep {K : PySem.W.Frag} {G : GH} {H : Hp} {ds : List D} {xs : List V} (rl : RepL K G H ds xs) (lo hi : Option Int) : RepL K G H (cutD ds lo hi) (cutV xs lo hi) := by
  unfold cutD cutV
  rw [rl.length]
  exact (rl.drop _).take _
@[simp] def rSl : D → Option Int → Option Int → GH → DK → Prop := fun x lo hi G Q => match x with
  | .tup ds => Q (.tup (cutD ds lo hi)) G
  | .scr ns => ∀ p, G p = none → Q (.ref p) (updG G p (.lst (cutD (ns.map D.int) lo hi)))
  | .lst ds => ∀ p, G p = none → Q (.ref p) (updG G p (.lst (cutD ds lo hi)))
  | .ref a => (match G a with
    | some (.lst ds) => ∀ p, G p = none → Q (.ref p) (updG G p (.lst (cutD ds lo hi)))
    | _ => False)
  | _ => False
def upSl (K : PySem.W.Frag) (r : D → Option Int → Option Int → GH → DK → Prop) : V → Option Int → Option Int → Hp → VK → Prop := fun x lo hi H Qv => ∃ (G : GH) (d : D) (Q : DK), GOk K G H ∧ RepV K G H d x ∧ r d lo hi G Q ∧ ∀ v d H' G', Ext G H G' H' → GOk K G' H' → RepV K G' H' d v → Q d G' → Qv v H'
@[simp] def dSl (te : DTE) (tl th : DTO) : DTE := fun ρ G Q => te ρ G fun x G1 => tl ρ G1 fun l G2 => th ρ G2 fun u G3 => rSl x l u G3 Q
section
variable {X : Cx}
theorem PO.imp {e : Option Expr} {t t' : TO} (h : PO X e t) (i : ∀ σ H Q, t' σ H Q → t σ H Q) : PO X e t' := ⟨fun pins s σ H Q I q => h.run pins s σ H Q I (i σ H Q q)⟩
theorem do_none : DO' X none dNoP := PO.imp po_none fun σ H Q ⟨ρ, G, q, r, h, k⟩ => k none H G (Ext.refl G H) r h
theorem do_some {e : Expr} {te : DTE} (h : DE X e te) : DO' X (some e) (dP te) := PO.imp (po_some h) fun σ H Q ⟨ρ, G, q, r, h, k⟩ => by
  refine ⟨ρ, G, _, r, h, fun x dx H1 G1 e1 r1 v1 h1 => ?_⟩
  cases dx with
  | int i => cases rv_int v1; exact ⟨i, rfl, k (some i) H1 G1 e1 r1 h1⟩
  | _ => exact h1.elim
theorem sl_all : SlR X (upSl X.K rSl) := by
  intro pins s σ H x v vl vu lo hi sl Q I rx hs pl pu ⟨G, d, q, g, r, h, k⟩
  have lcase : ∀ (a : Addr) (xs : List V) (ds : List D), x = .ref a → SqL X.K H a xs → RepL X.K G H ds xs → (∀ p, G p = none → q (.ref p) (updG G p (.lst (cutD ds lo hi)))) →
      ∃ T id, typeLookup (.type T) "__getitem__" = pure (some (.builtin id)) ∧ s.TypeIs v T ∧ wpAny (model X.prog X.w) X.A (getItem v (.ref sl)) (EP X pins σ Q) X.xe s := by
    intro a xs ds e hq rl hk
    refine sl_list pins s σ H x v vl vu lo hi sl Q I rx hs pl pu ⟨a, xs, e, hq, fun p hp => ?_⟩
    obtain ⟨e1, g1, v1⟩ := new_lst g hp (cut_rep rl lo hi)
    exact k _ _ _ _ e1 g1 v1 (hk p (g.fresh hp))
  cases d with
  | tup ds =>
    obtain ⟨a, xs, e, t, rl⟩ := tp_at r
    refine sl_tupA pins s σ H x v vl vu lo hi sl Q I rx hs pl pu ⟨a, xs, e, t, fun z => ?_, fun z p hp => ?_⟩
    · have e2 : cutD ds lo hi = ds := by
        unfold cutD
        rw [← rl.length, z.1, z.2]
        simp [rl.length]
      subst e
      refine k _ _ H G (Ext.refl G H) g ?_ h
      rw [e2]
      exact r
    · obtain ⟨e1, g1, v1⟩ := new_tup g hp (cut_rep rl lo hi)
      exact k _ _ _ _ e1 g1 v1 h
  | scr ns =>
    unfold RepV at r
    obtain ⟨a, e, t⟩ := r
    exact lcase a _ _ e t.sq repL_of_ints h
  | lst ds =>
    unfold RepV at r
    obtain ⟨a, xs, e, t, rl⟩ := r
    exact lcase a xs ds e t.sq rl h
  | ref a =>
    cases rv_ref r
    dsimp only [rSl] at h
    cases hg : G a with
    | none => rw [hg] at h; exact h.elim
    | some o =>
      rw [hg] at h
      cases o with
      | lst ds =>
        obtain ⟨xs, h1, h2⟩ := g a _ hg
        exact lcase a xs ds rfl (SqL.of h1) h2 h
      | _ => exact h.elim
  | _ => exact h.elim
theorem de_slice {e : Expr} {lo hi : Option Expr} {te : DTE} {tl th : DTO} {p2 pos : Pos} (he : DE X e te) (hl : DO' X lo tl) (hh : DO' X hi th) : DE X (.Subscript e (.Slice lo hi none p2) pos) (dSl te tl th) := by
  refine (pe_slice sl_all he hl hh).imp fun σ H Q ⟨ρ, G, q, r, h, k⟩ => ?_
  refine ⟨ρ, G, _, r, h, fun x dx H1 G1 e1 r1 v1 h1 => ?_⟩
  refine ⟨ρ, G1, _, r1, h1, fun l H2 G2 e2 r2 h2 => ?_⟩
  refine ⟨ρ, G2, _, r2, h2, fun u H3 G3 e3 r3 h3 => ?_⟩
  exact ⟨G3, dx, q, r3.gok, v1.ext (e2.trans e3), h3, fun v d H' G' e4 g4 v4 h4 => k v d H' G' (((e1.trans e2).trans e3).trans e4) (r3.ext e4 g4) v4 h4⟩
end
end Dl
namespace Dl
open PySem L2
abbrev DRC := List D → GH → DK → Prop
def upC (K : PySem.W.Frag) (r : DRC) : List V → Hp → VK → Prop := fun xs H Qv => ∃ (G : GH) (ds : List D) (Q : DK), GOk K G H ∧ RepL K G H ds xs ∧ r ds G Q ∧ ∀ v d H' G', Ext G H G' H' → GOk K G' H' → RepV K G' H' d v → Q d G' → Qv v H'
abbrev DCall (X : Cx) (f : Value) (r : DRC) : Prop := CallR X f (upC X.K r)
@[simp] def dCB (r : DRC) (t : DTA) : DTE := fun ρ G Q => t ρ G fun ds G1 => r ds G1 Q
theorem up_cb {K : PySem.W.Frag} {r : DRC} {t : DTA} {σ : St} {H : Hp} {Q : VK} (h : up K (dCB r t) σ H Q) : tCB (upC K r) (upA K t) σ H Q := by
  obtain ⟨ρ, G, q, r0, h, k⟩ := h
  refine ⟨ρ, G, _, r0, h, fun vs ds H1 G1 e1 r1 v1 h1 => ?_⟩
  exact ⟨G1, ds, q, r1.gok, v1, h1, fun v d H' G' e2 g2 v2 h2 => k v d H' G' (e1.trans e2) (r1.ext e2 g2) v2 h2⟩
section
variable {X : Cx} {x : Str} {p pos : Pos} {e : Expr} {es : List Expr} {t : DTA} {id T : String} {r : DRC}
theorem de_callB (hc : DCall X (.builtin id) r) (hg : Gl X x) (hm : X.mg x = none) (hv : bootBuiltins x = some (.builtin id)) (ha : DA X (e :: es) t) (hn : x ≠ "__name__" := by decide) (hdb : (x == ("__debug__" : Str)) = false := by decide)
    (he : starEach (e :: es) X.env = (false, eval e X.env) :: starEach es X.env := by rfl) (hpl : (backTo pos (starEach es X.env)).any (·.1) = false := by rfl) : DE X (.Call (.Name x p) (e :: es) [] pos) (dCB r t) := (pe_callB hc hg hm hv ha hn hdb he hpl).imp fun _ _ _ h => up_cb h
theorem de_callTy (hc : DCall X (.type T) r) (hg : Gl X x) (hm : X.mg x = none) (hv : bootBuiltins x = some (.type T)) (ha : DA X (e :: es) t) (hn : x ≠ "__name__" := by decide) (hdb : (x == ("__debug__" : Str)) = false := by decide)
    (he : starEach (e :: es) X.env = (false, eval e X.env) :: starEach es X.env := by rfl) (hpl : (backTo pos (starEach es X.env)).any (·.1) = false := by rfl) : DE X (.Call (.Name x p) (e :: es) [] pos) (dCB r t) := (pe_callTy hc hg hm hv ha hn hdb he hpl).imp fun _ _ _ h => up_cb h
end
theorem repL_1 {K : PySem.W.Frag} {G : GH} {H : Hp} {d : D} {xs : List V} (h : RepL K G H [d] xs) : ∃ x, xs = [x] ∧ RepV K G H d x := by
  unfold RepL at h
  obtain ⟨x, r, rfl, h1, h2⟩ := h
  unfold RepL at h2
  subst h2
  exact ⟨x, rfl, h1⟩
theorem repL_2 {K : PySem.W.Frag} {G : GH} {H : Hp} {d e : D} {xs : List V} (h : RepL K G H [d, e] xs) : ∃ x y, xs = [x, y] ∧ RepV K G H d x ∧ RepV K G H e y := by
  unfold RepL at h
  obtain ⟨x, r, rfl, h1, h2⟩ := h
  obtain ⟨y, rfl, h3⟩ := repL_1 h2
  exact ⟨x, y, rfl, h1, h3⟩
@[simp] def arg1 (ds : List D) (P : D → Prop) : Prop := match ds with
  | [d] => P d
  | _ => False
@[simp] def arg2 (ds : List D) (P : D → D → Prop) : Prop := match ds with
  | [d, e] => P d e
  | _ => False
theorem arg1_of {ds : List D} {P : D → Prop} (h : arg1 ds P) : ∃ d, ds = [d] ∧ P d := by
  match ds, h with
  | [d], h => exact ⟨d, rfl, h⟩
theorem arg2_of {ds : List D} {P : D → D → Prop} (h : arg2 ds P) : ∃ d e, ds = [d, e] ∧ P d e := by
  match ds, h with
  | [d, e], h => exact ⟨d, e, rfl, h⟩
@[simp] def rLen : DRC := fun ds G Q => arg1 ds fun x => match x with
  | .str z => z.length ≤ sizeLine ∧ Q (.int z.length) G
  | .tup l => Q (.int l.length) G
  | .lst l => Q (.int l.length) G
  | .ref a => (match G a with
    | some (.lst l) => Q (.int l.length) G
    | some (.dct l) => Q (.int l.length) G
    | _ => False)
  | _ => False
@[simp] def rIntC : DRC := fun ds G Q => arg1 ds fun x => match x with
  | .int i => Q (.int i) G
  | .bl b => Q (.int (if b then 1 else 0)) G
  | _ => False
@[simp] def rAbs : DRC := fun ds G Q => arg1 ds fun x => match x with
  | .int i => Q (.int (if i < 0 then -i else i)) G
  | _ => False
@[simp] def rMax2 : DRC := fun ds G Q => arg2 ds fun x y => match x with
  | .int i => (match y with
    | .int j => Q (.int (if j > i then j else i)) G
    | _ => False)
  | _ => False
@[simp] def rMin2 : DRC := fun ds G Q => arg2 ds fun x y => match x with
  | .int i => (match y with
    | .int j => Q (.int (if j < i then j else i)) G
    | _ => False)
  | _ => False
def intsD : List D → Option (List Int)
  | [] => some []
  | .int i :: r => (intsD r).map (i :: ·)
  | _ :: _ => none
theorem intsD_of : ∀ {ds : List D} {ns : List Int}, intsD ds = some ns → ds = ns.map D.int
  | [], ns, h => by simp [intsD] at h; subst h; rfl
  | .int i :: r, ns, h => by
    simp only [intsD, Option.map_eq_some_iff] at h
    obtain ⟨ms, h1, rfl⟩ := h
    rw [intsD_of h1]
    rfl
  | .non :: _, _, h => by simp [intsD] at h
  | .bl _ :: _, _, h => by simp [intsD] at h
  | .str _ :: _, _, h => by simp [intsD] at h
  | .byt _ :: _, _, h => by simp [intsD] at h
  | .tup _ :: _, _, h => by simp [intsD] at h
  | .lst _ :: _, _, h => by simp [intsD] at h
  | .ref _ :: _, _, h => by simp [intsD] at h
  | .scr _ :: _, _, h => by simp [intsD] at h
@[simp] def intsP (G : GH) (x : D) (P : List Int → Prop) : Prop := match lsOf G x with
  | some ds => (match intsD ds with
    | some ns => P ns
    | none => False)
  | none => False
theorem ints_of {K : PySem.W.Frag} {G : GH} {H : Hp} {x : D} {v : V} {P : List Int → Prop} (g : GOk K G H) (r : RepV K G H x v) (h : intsP G x P) : ∃ a ns, v = .ref a ∧ SqL K H a (ns.map V.int) ∧ P ns := by
  unfold intsP at h
  cases e : lsOf G x with
  | none => rw [e] at h; exact h.elim
  | some ds =>
    rw [e] at h
    dsimp only at h
    cases e2 : intsD ds with
    | none => rw [e2] at h; exact h.elim
    | some ns =>
      rw [e2] at h
      obtain ⟨a, xs, rfl, h1, rl⟩ := ls_at g r e
      rw [intsD_of e2] at rl
      have := repL_ints rl
      subst this
      exact ⟨a, ns, rfl, SqL.of h1, h⟩
@[simp] def rSumC : DRC := fun ds G Q => arg1 ds fun x => intsP G x fun ns => Q (.int ns.sum) G
@[simp] def rMaxC : DRC := fun ds G Q => arg1 ds fun x => intsP G x fun ns => 0 < ns.length ∧ ∀ m, m ∈ ns → (∀ y, y ∈ ns → y ≤ m) → Q (.int m) G
@[simp] def rMinC : DRC := fun ds G Q => arg1 ds fun x => intsP G x fun ns => 0 < ns.length ∧ ∀ m, m ∈ ns → (∀ y, y ∈ ns → m ≤ y) → Q (.int m) G
@[simp] def rTupC : DRC := fun ds G Q => arg1 ds fun x => match sqOf G x with
  | some l => Q (.tup l) G
  | none => False
@[simp] def rLstC : DRC := fun ds G Q => arg1 ds fun x => match sqOf G x with
  | some l => ∀ p, G p = none → Q (.ref p) (updG G p (.lst l))
  | none => False
section
variable {X : Cx}
theorem c_len : DCall X (.builtin "len") rLen := by
  intro pins s σ H xs us Q I r ⟨G, ds, q, g, rl, h0, k⟩
  obtain ⟨d, rfl, h⟩ := arg1_of h0
  obtain ⟨x, rfl, rx⟩ := repL_1 rl
  cases d with
  | str z => cases rv_str rx; exact call_len pins s σ H _ us Q I r ⟨_, z.length, rfl, ⟨h.1, rfl⟩, k _ _ H G (Ext.refl G H) g int_rv h.2⟩
  | tup l =>
    obtain ⟨a, ys, rfl, t, rl⟩ := tp_at rx
    exact call_len_seq pins s σ H _ us Q I r ⟨a, ys, rfl, .inr t, by rw [rl.length]; exact k _ _ H G (Ext.refl G H) g int_rv h⟩
  | lst l =>
    obtain ⟨a, ys, rfl, t, rl⟩ := ls_at g rx (ds := l) rfl
    exact call_len_seq pins s σ H _ us Q I r ⟨a, ys, rfl, .inl (SqL.of t), by rw [rl.length]; exact k _ _ H G (Ext.refl G H) g int_rv h⟩
  | ref a =>
    cases rv_ref rx
    dsimp only at h
    cases hg : G a with
    | none => rw [hg] at h; exact h.elim
    | some o =>
      rw [hg] at h
      cases o with
      | lst l =>
        obtain ⟨ys, h1, rl⟩ := g a _ hg
        exact call_len_seq pins s σ H _ us Q I r ⟨a, ys, rfl, .inl (SqL.of h1), by rw [rl.length]; exact k _ _ H G (Ext.refl G H) g int_rv h⟩
      | dct l =>
        obtain ⟨ws, h1, e1, rl⟩ := g a _ hg
        have hl : ws.length = l.length := by simpa using congrArg List.length e1
        refine call_lenD pins s σ H _ us Q I r ⟨a, ws, rfl, h1, ?_⟩
        rw [hl]
        exact k _ _ H G (Ext.refl G H) g int_rv h
      | raw _ => exact h.elim
      | ins _ _ => exact h.elim
      | dtp _ => exact h.elim
      | tab _ => exact h.elim
      | slt _ _ => exact h.elim
      | dny _ _ _ => exact h.elim
  | _ => exact h.elim
theorem c_int : DCall X (.type "int") rIntC := by
  intro pins s σ H xs us Q I r ⟨G, ds, q, g, rl, h0, k⟩
  obtain ⟨d, rfl, h⟩ := arg1_of h0
  obtain ⟨x, rfl, rx⟩ := repL_1 rl
  cases d with
  | int i => cases rv_int rx; exact call_int1 pins s σ H _ us Q I r (.inl ⟨i, rfl, k _ _ H G (Ext.refl G H) g int_rv h⟩)
  | bl b => cases rv_bl rx; exact call_int1 pins s σ H _ us Q I r (.inr ⟨b, rfl, k _ _ H G (Ext.refl G H) g int_rv h⟩)
  | _ => exact h.elim
theorem c_max2 (hc : X.calm = true) : DCall X (.builtin "max") rMax2 := by
  intro pins s σ H xs us Q I r ⟨G, ds, q, g, rl, h0, k⟩
  obtain ⟨d, e, rfl, h⟩ := arg2_of h0
  obtain ⟨x, y, rfl, rx, ry⟩ := repL_2 rl
  cases d with
  | int i =>
    cases e with
    | int j => cases rv_int rx; cases rv_int ry; exact call_max2 hc pins s σ H _ us Q I r ⟨i, j, rfl, k _ _ H G (Ext.refl G H) g int_rv h⟩
    | _ => exact h.elim
  | _ => exact h.elim
theorem c_min2 (hc : X.calm = true) : DCall X (.builtin "min") rMin2 := by
  intro pins s σ H xs us Q I r ⟨G, ds, q, g, rl, h0, k⟩
  obtain ⟨d, e, rfl, h⟩ := arg2_of h0
  obtain ⟨x, y, rfl, rx, ry⟩ := repL_2 rl
  cases d with
  | int i =>
    cases e with
    | int j => cases rv_int rx; cases rv_int ry; exact call_min2 hc pins s σ H _ us Q I r ⟨i, j, rfl, k _ _ H G (Ext.refl G H) g int_rv h⟩
    | _ => exact h.elim
  | _ => exact h.elim
theorem c_sum (hc : X.calm = true) : DCall X (.builtin "sum") rSumC := by
  intro pins s σ H xs us Q I r ⟨G, ds, q, g, rl, h0, k⟩
  obtain ⟨d, rfl, h⟩ := arg1_of h0
  obtain ⟨x, rfl, rx⟩ := repL_1 rl
  obtain ⟨a, ns, rfl, hs, h⟩ := ints_of g rx h
  exact cr_sum hc pins s σ H _ us Q I r ⟨a, ns, rfl, hs, k _ _ H G (Ext.refl G H) g int_rv h⟩
theorem c_max (hc : X.calm = true) : DCall X (.builtin "max") rMaxC := by
  intro pins s σ H xs us Q I r ⟨G, ds, q, g, rl, h0, k⟩
  obtain ⟨d, rfl, h⟩ := arg1_of h0
  obtain ⟨x, rfl, rx⟩ := repL_1 rl
  obtain ⟨a, ns, rfl, hs, h⟩ := ints_of g rx h
  exact cr_max hc pins s σ H _ us Q I r ⟨a, ns, rfl, hs, h.1, fun m h1 h2 => k _ _ H G (Ext.refl G H) g int_rv (h.2 m h1 h2)⟩
theorem c_min (hc : X.calm = true) : DCall X (.builtin "min") rMinC := by
  intro pins s σ H xs us Q I r ⟨G, ds, q, g, rl, h0, k⟩
  obtain ⟨d, rfl, h⟩ := arg1_of h0
  obtain ⟨x, rfl, rx⟩ := repL_1 rl
  obtain ⟨a, ns, rfl, hs, h⟩ := ints_of g rx h
  exact cr_min hc pins s σ H _ us Q I r ⟨a, ns, rfl, hs, h.1, fun m h1 h2 => k _ _ H G (Ext.refl G H) g int_rv (h.2 m h1 h2)⟩
theorem c_tuple : DCall X (.type "tuple") rTupC := by
  intro pins s σ H xs us Q I r ⟨G, ds, q, g, rl, h0, k⟩
  obtain ⟨d, rfl, h⟩ := arg1_of h0
  obtain ⟨x, rfl, rx⟩ := repL_1 rl
  cases e : sqOf G d with
  | none => rw [e] at h; exact h.elim
  | some l =>
    rw [e] at h
    obtain ⟨a, ys, rfl, hs, rl⟩ := sq_at g rx e
    refine call_tuple_of pins s σ H _ us Q I r ⟨a, ys, rfl, ?_⟩
    rcases hs with hs | hs
    · refine .inl ⟨hs, fun p hp => ?_⟩
      obtain ⟨e1, g1, v1⟩ := new_tup g hp rl
      exact k _ _ _ _ e1 g1 v1 h
    · refine .inr ⟨hs, ?_⟩
      cases d with
      | tup l2 =>
        simp only [sqOf, Option.some.injEq] at e
        subst e
        exact k _ _ H G (Ext.refl G H) g rx h
      | lst l2 =>
        obtain ⟨a2, xs2, e2, h2, _⟩ := ls_at g rx (ds := l) e
        cases e2
        have z1 := (I.list (SqL.of h2))
        obtain ⟨its, _, ⟨o, n, ho, hc, _⟩, _⟩ := z1
        obtain ⟨its2, _, ⟨o2, ho2, hc2, _⟩, _⟩ := I.tuple hs
        rw [ho] at ho2
        cases ho2
        rw [hc] at hc2
        simp at hc2
      | ref a2 =>
        obtain ⟨a2, xs2, e2, h2, _⟩ := ls_at g rx (ds := l) e
        cases e2
        have z1 := (I.list (SqL.of h2))
        obtain ⟨its, _, ⟨o, n, ho, hc, _⟩, _⟩ := z1
        obtain ⟨its2, _, ⟨o2, ho2, hc2, _⟩, _⟩ := I.tuple hs
        rw [ho] at ho2
        cases ho2
        rw [hc] at hc2
        simp at hc2
      | _ => simp [sqOf] at e
theorem c_list : DCall X (.type "list") rLstC := by
  intro pins s σ H xs us Q I r ⟨G, ds, q, g, rl, h0, k⟩
  obtain ⟨d, rfl, h⟩ := arg1_of h0
  obtain ⟨x, rfl, rx⟩ := repL_1 rl
  cases e : sqOf G d with
  | none => rw [e] at h; exact h.elim
  | some l =>
    rw [e] at h
    obtain ⟨a, ys, rfl, hs, rl⟩ := sq_at g rx e
    refine call_list_of pins s σ H _ us Q I r ⟨a, ys, rfl, hs, fun p hp => ?_⟩
    obtain ⟨e1, g1, v1⟩ := new_lst g hp rl
    exact k _ _ _ _ e1 g1 v1 (h p (g.fresh hp))
end
section
open AutoSeq1
theorem ext_by_tuple (l : Addr) (items : Array Value) (n : Nat) (b : Addr) (more : Array Value) (n2 : Nat) (dd : Option Addr) (sl : Array (Option Value)) (hs0 : ¬(!items.isEmpty && Builtin.List.listTooLong (items.size + more.size)) = true) (hs1 : items.size ≤ sizeLine)
    (hs2 : items.size + more.size ≤ sizeLine + 1) :
    Meets (Builtin.«list.extend» ⟨[.ref l, .ref b], []⟩) (fun _ R s => s.heap.get? l = some { cls := .type "list", data := .seq items n } ∧ s.heap.get? b = some { cls := .type "tuple", dict := dd, data := .seq more n2, slots := sl } ∧
      R (.ok (.ret Value.none)) { s with heap := s.heap.update l (Obj.mapSeq fun x => x ++ more) }) :=
  .of_wp fun prog w A R st hh => by
    obtain ⟨hp, gg, dr, tk, os⟩ := st
    obtain ⟨hl, hb, hR⟩ := hh
    have f1 := idx_int
    have f2 := sub_tuple_tuple
    have f3 := sub_list_list
    have f4 := sub_tuple_list
    have f5 := sub_list_tuple
    have hz : (items ++ more).size ≤ sizeLine + 1 := by rw [Array.size_append]; exact hs2
    wp_walk using (wpAny_updateSeq hl rfl (hz := hs1) (_hz' := hz)), wpAny_loadPart' hl, wpAny_loadPart' hb
    exact ⟨_, rfl, hR⟩
end
abbrev DRM := D → List D → GH → DK → Prop
def upM (K : PySem.W.Frag) (r : DRM) : V → List V → Hp → VK → Prop := fun x xs H Qv => ∃ (G : GH) (d : D) (ds : List D) (Q : DK), GOk K G H ∧ RepV K G H d x ∧ RepL K G H ds xs ∧ r d ds G Q ∧ ∀ v d H' G', Ext G H G' H' → GOk K G' H' → RepV K G' H' d v → Q d G' → Qv v H'
@[simp] def dMt (r : DRM) (to : DTE) (t : DTA) : DTE := fun ρ G Q => to ρ G fun x G1 => lstP G1 x fun _ _ => t ρ G1 fun ds G2 => r x ds G2 Q
@[simp] def mAppend : DRM := fun x ds G Q => lstP G x fun a l => arg1 ds fun d => l.length < sizeLine ∧ Q .non (updG G a (.lst (l ++ [d])))
@[simp] def mExtend : DRM := fun x ds G Q => lstP G x fun a l => arg1 ds fun d => match sqOf G d with
  | some m => l.length + m.length ≤ sizeLine ∧ Q .non (updG G a (.lst (l ++ m)))
  | none => False
@[simp] def mPop : DRM := fun x ds G Q => lstP G x fun a l => match ds with
  | [] => (match l[l.length - 1]? with
    | some d => Q d (updG G a (.lst l.dropLast))
    | none => False)
  | _ => False
section
variable {X : Cx}
theorem m_append : MtR X "list.append" (upM X.K mAppend) := by
  intro pins s σ H x xs v us Q I rx rv ⟨G, d, ds, q, g, r1, r2, h, k⟩
  obtain ⟨a, l, ys, rfl, rfl, hg, h1, h2, rl⟩ := lst_of g r1 h
  obtain ⟨e, rfl, h3⟩ := arg1_of h1
  obtain ⟨y, rfl, ry⟩ := repL_1 r2
  refine mt_append pins s σ H _ _ v us Q I rx rv ⟨a, ys, y, rfl, rfl, h2, by rw [rl.length]; exact h3.1, ?_⟩
  obtain ⟨e1, g1⟩ := put_lst g hg (rl.append (repL_one ry))
  exact k _ _ _ _ e1 g1 non_rv h3.2
theorem m_pop : MtR X "list.pop" (upM X.K mPop) := by
  intro pins s σ H x xs v us Q I rx rv ⟨G, d, ds, q, g, r1, r2, h, k⟩
  obtain ⟨a, l, ys, rfl, rfl, hg, h1, h2, rl⟩ := lst_of g r1 h
  cases ds with
  | cons _ _ => exact h1.elim
  | nil =>
    unfold RepL at r2
    subst r2
    dsimp only at h1
    cases e : l[l.length - 1]? with
    | none => rw [e] at h1; exact h1.elim
    | some d =>
      rw [e] at h1
      obtain ⟨y, hy, ry⟩ := rl.get e
      refine mt_pop pins s σ H _ _ v us Q I rx rv ⟨a, ys, y, rfl, rfl, h2, by rw [rl.length]; exact hy, ?_⟩
      obtain ⟨e1, g1⟩ := put_lst g hg rl.dropLast
      exact k _ _ _ _ e1 g1 (ry.ext e1) h1
theorem m_extend : MtR X "list.extend" (upM X.K mExtend) := by
  intro pins s σ H x xs v us Q I rx rv ⟨G, d, ds, q, g, r1, r2, h, k⟩
  obtain ⟨a, l, ys, rfl, rfl, hg, h1, h2, rl⟩ := lst_of g r1 h
  obtain ⟨e, rfl, h3⟩ := arg1_of h1
  obtain ⟨y, rfl, ry⟩ := repL_1 r2
  cases e2 : sqOf G e with
  | none => rw [e2] at h3; exact h3.elim
  | some m =>
    rw [e2] at h3
    obtain ⟨b, zs, rfl, hs, rm⟩ := sq_at g ry e2
    obtain ⟨e1, g1⟩ := put_lst g hg (rl.append rm)
    have fin : Q .non (upd H a (.lst (ys ++ zs))) := k _ _ _ _ e1 g1 non_rv h3.2
    have hz : ys.length + zs.length ≤ sizeLine := by rw [rl.length, rm.length]; exact h3.1
    have hcase : (H b = some (.lst zs)) ∨ SqT X.K H b zs := by
      rcases hs with hs | hs
      · cases e with
        | tup l2 =>
          obtain ⟨a2, xs2, e3, h4, _⟩ := tp_at ry
          cases e3
          obtain ⟨its, _, ⟨o, n, ho, hc, _⟩, _⟩ := I.list hs
          obtain ⟨its2, _, ⟨o2, ho2, hc2, _⟩, _⟩ := I.tuple h4
          rw [ho] at ho2
          cases ho2
          rw [hc] at hc2
          simp at hc2
        | lst l2 =>
          obtain ⟨a2, xs2, e3, h4, _⟩ := ls_at g ry (ds := m) e2
          cases e3
          rw [I.list_inj hs (SqL.of h4)]
          exact .inl h4
        | ref l2 =>
          obtain ⟨a2, xs2, e3, h4, _⟩ := ls_at g ry (ds := m) e2
          cases e3
          rw [I.list_inj hs (SqL.of h4)]
          exact .inl h4
        | _ => simp [sqOf] at e2
      · exact .inr hs
    rcases hcase with hb | hb
    · exact mt_extend pins s σ H _ _ v us Q I rx rv ⟨a, b, ys, zs, rfl, rfl, h2, hb, hz, fin⟩
    · cases rx
      obtain ⟨u, rfl, ru⟩ := rv.one
      cases ru
      obtain ⟨z, its, n, r, hl, e⟩ := I.lstM h2
      obtain ⟨its2, r2', ⟨⟨cls, dd, data, sl⟩, ho, hcl, n2, hd⟩, hz2⟩ := I.tuple hb
      simp only at hcl hd
      subst hcl hd
      have hl2 := r2'.length
      have hsz : its.toArray.size + its2.toArray.size ≤ sizeLine := by rw [List.size_toArray, List.size_toArray]; omega
      have hlong : ¬ (!its.toArray.isEmpty && Builtin.List.listTooLong (its.toArray.size + its2.toArray.size)) = true := by
        rw [notLongL hsz, Bool.and_false]
        exact Bool.false_ne_true
      refine call_meets F.slot_list_extend ⟨_, e, rfl⟩ F.entry_list_extend (F.args_list_extend_2 _ _)
        (ext_by_tuple a its.toArray n b its2.toArray n2 dd sl hlong (by rw [List.size_toArray]; omega) (by omega)) ⟨e, ho, ?_⟩
      refine ⟨.non, _, I.lset (its' := its ++ its2) h2 e (by simp) (r.append r2') ?_, rfl, fin⟩
      rw [List.length_append]
      omega
variable {o e : Expr} {es : List Expr} {to : DTE} {t : DTA} {name : Str} {apos cpos : Pos} {id : String} {r : DRM}
theorem up_mt {K : PySem.W.Frag} {σ : St} {H : Hp} {Q : VK} (h : up K (dMt r to t) σ H Q) : tBM K "list" (upM K r) (up K to) (upA K t) σ H Q := by
  obtain ⟨ρ, G, q, r0, h, k⟩ := h
  refine ⟨ρ, G, _, r0, h, fun x dx H1 G1 e1 r1 v1 h1 => ?_⟩
  obtain ⟨a, l, ys, rfl, rfl, hg, h2, h3, rl⟩ := lst_of r1.gok v1 h1
  refine ⟨.inl ⟨rfl, ys, SqL.of h3⟩, ρ, G1, _, r1, h2, fun vs ds H2 G2 e2 r2 v2 h4 => ?_⟩
  exact ⟨G2, .ref a, ds, q, r2.gok, ref_rv, v2, h4, fun v d H' G' e3 g3 v3 h3 => k v d H' G' ((e1.trans e2).trans e3) (r2.ext e3 g3) v3 h3⟩
theorem de_mt (slot : Slot "list" name id) (hty : typeOf (.builtin id) = pure (.type "method_descriptor")) (hm : MtR X id (upM X.K r)) (ho : DE X o to) (ha : DA X (e :: es) t)
    (hbase : attributeBase o name X.env (eval o X.env) = eval o X.env := by rfl)
    (hfew : ((backTo cpos (starEach (e :: es) X.env)).all (fun x => !x.1) && (backToKw cpos (keywordEach [] X.env)).all (fun x => x.1.isSome)
      && decide ((e :: es).length + ([] : List Keyword).length + (if ([] : List Keyword).isEmpty then 0 else 1) < 30)) = true := by rfl)
    (hline : (apos.endLine == cpos.line) = true := by rfl) (hs : starEach (e :: es) X.env = (false, eval e X.env) :: starEach es X.env := by rfl) (hplain : (backTo cpos (starEach es X.env)).any (·.1) = false := by rfl) :
    DE X (.Call (.Attribute o name apos) (e :: es) [] cpos) (dMt r to t) := (pe_bm F.plainAttrs_list slot hty hm ho ha hbase hfew hline hs hplain).imp fun _ _ _ h => up_mt h
theorem de_mt0 (slot : Slot "list" name id) (hty : typeOf (.builtin id) = pure (.type "method_descriptor")) (hm : MtR X id (upM X.K r)) (ho : DE X o to)
    (hbase : attributeBase o name X.env (eval o X.env) = eval o X.env := by rfl) (hline : (apos.endLine == cpos.line) = true := by rfl) : DE X (.Call (.Attribute o name apos) [] [] cpos) (dMt r to dNil) :=
  (pe_bm0 F.plainAttrs_list slot hty hm ho hbase hline).imp fun σ H Q ⟨ρ, G, q, r0, h, k⟩ => by
    refine ⟨ρ, G, _, r0, h, fun x dx H1 G1 e1 r1 v1 h1 => ?_⟩
    obtain ⟨a, l, ys, rfl, rfl, hg, h2, h3, rl⟩ := lst_of r1.gok v1 h1
    refine ⟨.inl ⟨rfl, ys, SqL.of h3⟩, ?_⟩
    exact ⟨G1, .ref a, [], q, r1.gok, ref_rv, repL_nil, h2, fun v d H' G' e3 g3 v3 h3 => k v d H' G' (e1.trans e3) (r1.ext e3 g3) v3 h3⟩
theorem de_append {x : Expr} {tx : DTE} (ho : DE X o to) (ha : DE X x tx)
    (hbase : attributeBase o "append" X.env (eval o X.env) = eval o X.env := by rfl)
    (hfew : ((backTo cpos (starEach [x] X.env)).all (fun x => !x.1) && (backToKw cpos (keywordEach [] X.env)).all (fun x => x.1.isSome)
      && decide ([x].length + ([] : List Keyword).length + (if ([] : List Keyword).isEmpty then 0 else 1) < 30)) = true := by rfl)
    (hline : (apos.endLine == cpos.line) = true := by rfl) (hs : starEach [x] X.env = (false, eval x X.env) :: starEach [] X.env := by rfl) (hplain : (backTo cpos (starEach [] X.env)).any (·.1) = false := by rfl) :
    DE X (.Call (.Attribute o "append" apos) [x] [] cpos) (dMt mAppend to (dCons tx dNil)) := de_mt F.slot_list_append F.type_list_append m_append ho (da_cons ha da_nil hs) hbase hfew hline hs hplain
theorem de_extend {x : Expr} {tx : DTE} (ho : DE X o to) (ha : DE X x tx)
    (hbase : attributeBase o "extend" X.env (eval o X.env) = eval o X.env := by rfl)
    (hfew : ((backTo cpos (starEach [x] X.env)).all (fun x => !x.1) && (backToKw cpos (keywordEach [] X.env)).all (fun x => x.1.isSome)
      && decide ([x].length + ([] : List Keyword).length + (if ([] : List Keyword).isEmpty then 0 else 1) < 30)) = true := by rfl)
    (hline : (apos.endLine == cpos.line) = true := by rfl) (hs : starEach [x] X.env = (false, eval x X.env) :: starEach [] X.env := by rfl) (hplain : (backTo cpos (starEach [] X.env)).any (·.1) = false := by rfl) :
    DE X (.Call (.Attribute o "extend" apos) [x] [] cpos) (dMt mExtend to (dCons tx dNil)) := de_mt F.slot_list_extend F.type_list_extend m_extend ho (da_cons ha da_nil hs) hbase hfew hline hs hplain
theorem de_pop (ho : DE X o to)
    (hbase : attributeBase o "pop" X.env (eval o X.env) = eval o X.env := by rfl) (hline : (apos.endLine == cpos.line) = true := by rfl) : DE X (.Call (.Attribute o "pop" apos) [] [] cpos) (dMt mPop to dNil) :=
  de_mt0 F.slot_list_pop F.type_list_pop m_pop ho hbase hline
end
end Dl
namespace Dl
open PySem L2
@[simp] def dStar (te : DTE) (tr : DTA) : DTA := fun ρ G Q => te ρ G fun x G1 => match sqOf G1 x with
  | some ds => tr ρ G1 fun xs G2 => Q (ds ++ xs) G2
  | none => False
section
variable {X : Cx}
theorem da_star {e : Expr} {es : List Expr} {te : DTE} {t : DTA} {p : Pos} (he : DE X e te) (hr : DA X es t) (hs : starEach (.Starred e p :: es) X.env = (true, eval e X.env) :: starEach es X.env := by rfl) : DA X (.Starred e p :: es) (dStar te t) := by
  refine (StX.pa_star he hr hs).imp fun σ H Q ⟨ρ, G, q, r, h, k⟩ => ?_
  refine ⟨ρ, G, _, r, h, fun v d H1 G1 e1 r1 v1 h1 => ?_⟩
  cases e2 : sqOf G1 d with
  | none => rw [e2] at h1; exact h1.elim
  | some ds =>
    rw [e2] at h1
    obtain ⟨a, xs, rfl, hs, rl⟩ := sq_at r1.gok v1 e2
    refine ⟨a, xs, rfl, hs.symm, ρ, G1, _, r1, h1, fun vs es H2 G2 e3 r2 v2 h2 => ?_⟩
    exact k _ _ H2 G2 (e1.trans e3) r2 ((rl.ext e3).append v2) h2
end
@[simp] def truP (G : GH) (d : D) (P : Bool → Prop) : Prop := match d with
  | .non => P false
  | .bl b => P b
  | .int i => P (i != 0)
  | .str x => x.length ≤ sizeLine ∧ P ((x.length : Int) != 0)
  | .tup l => P (!l.isEmpty)
  | .lst l => P (!l.isEmpty)
  | .ref a => (match G a with
    | some (.lst l) => P (!l.isEmpty)
    | some (.dct l) => P (!l.isEmpty)
    | _ => False)
  | _ => False
@[simp] def dTru (te : DTE) : DTT := fun ρ G Q => te ρ G fun d G1 => truP G1 d fun b => Q b G1
theorem isEmpty_len {α β : Type} {xs : List α} {ys : List β} (h : xs.length = ys.length) : xs.isEmpty = ys.isEmpty := by
  cases xs <;> cases ys <;> simp_all
theorem tru_of {K : PySem.W.Frag} {G : GH} {H : Hp} {d : D} {v : V} {P : Bool → Prop} (g : GOk K G H) (r : RepV K G H d v) (h : truP G d P) : ∃ b, TruV K v H b ∧ P b := by
  cases d with
  | non => cases rv_non r; exact ⟨false, rfl, h⟩
  | bl b => cases rv_bl r; exact ⟨b, rfl, h⟩
  | int i => cases rv_int r; exact ⟨_, rfl, h⟩
  | str x => cases rv_str r; exact ⟨_, ⟨h.1, rfl⟩, h.2⟩
  | tup l =>
    obtain ⟨a, xs, rfl, t, rl⟩ := tp_at r
    exact ⟨_, .inr (.inl ⟨xs, t, rfl⟩), by rw [isEmpty_len rl.length]; exact h⟩
  | lst l =>
    obtain ⟨a, xs, rfl, t, rl⟩ := ls_at g r (ds := l) rfl
    exact ⟨_, .inl ⟨xs, SqL.of t, rfl⟩, by rw [isEmpty_len rl.length]; exact h⟩
  | ref a =>
    cases rv_ref r
    dsimp only [truP] at h
    cases hg : G a with
    | none => rw [hg] at h; exact h.elim
    | some o =>
      rw [hg] at h
      cases o with
      | lst l =>
        obtain ⟨xs, h1, rl⟩ := g a _ hg
        exact ⟨_, .inl ⟨xs, SqL.of h1, rfl⟩, by rw [isEmpty_len rl.length]; exact h⟩
      | dct l =>
        obtain ⟨ws, h1, e1, rl⟩ := g a _ hg
        have hl : ws.length = l.length := by simpa using congrArg List.length e1
        exact ⟨_, .inr (.inr ⟨ws, h1, rfl⟩), by rw [isEmpty_len hl]; exact h⟩
      | raw _ => exact h.elim
      | ins _ _ => exact h.elim
      | dtp _ => exact h.elim
      | tab _ => exact h.elim
      | slt _ _ => exact h.elim
      | dny _ _ _ => exact h.elim
  | _ => exact h.elim
section
variable {X : Cx}
theorem dt_tru {e : Expr} {te : DTE} (h : DE X e te) (he : ∀ whole, isTrue e X.env whole = (do let v ← whole; standAt e.pos; holding [v] (truthy v)) := by intro _; rfl) : DT X e (dTru te) := by
  refine (pt_truth h he).imp fun σ H Q ⟨ρ, G, q, r, h, k⟩ => ?_
  refine ⟨ρ, G, _, r, h, fun v d H1 G1 e1 r1 v1 h1 => ?_⟩
  obtain ⟨b, hb, h2⟩ := tru_of r1.gok v1 h1
  exact ⟨b, hb, k b H1 G1 e1 r1 h2⟩
end
@[simp] def tyD (G : GH) : D → Option String
  | .non => some "NoneType"
  | .bl _ => some "bool"
  | .int _ => some "int"
  | .str _ => some "str"
  | .byt _ => some "bytes"
  | .tup _ => some "tuple"
  | .lst _ => some "list"
  | .ref a => (match G a with
    | some (.lst _) => some "list"
    | some (.dct _) => some "dict"
    | _ => none)
  | .scr _ => none
  | .fn _ _ _ _ => none
  | .exh _ _ _ _ _ => none
@[simp] def subT (a b : String) : Bool := (a == b) || (a == "bool" && b == "int")
@[simp] def dIsi (T : String) (te : DTE) : DTE := fun ρ G Q => te ρ G fun d G1 => match tyD G1 d with
  | some t => Q (.bl (subT t T)) G1
  | none => False
def isiTypes : List String := ["NoneType", "bool", "int", "str", "bytes", "tuple", "list", "dict"]
theorem isi_tab : ∀ a ∈ isiTypes, ∀ b ∈ ["int", "bool", "str", "tuple", "list"], kitB a b = some (subT a b) := by decide +kernel
theorem ty_of {K : PySem.W.Frag} {G : GH} {H : Hp} {d : D} {v : V} {t : String} (g : GOk K G H) (r : RepV K G H d v) (h : tyD G d = some t) : TyX K H v (.type t) ∧ t ∈ isiTypes := by
  cases d with
  | non => cases rv_non r; simp only [tyD, Option.some.injEq] at h; subst h; exact ⟨.base .non, by decide⟩
  | bl b => cases rv_bl r; simp only [tyD, Option.some.injEq] at h; subst h; exact ⟨.base (.bl b), by decide⟩
  | int b => cases rv_int r; simp only [tyD, Option.some.injEq] at h; subst h; exact ⟨.base (.int b), by decide⟩
  | str b => cases rv_str r; simp only [tyD, Option.some.injEq] at h; subst h; exact ⟨.base (.str b), by decide⟩
  | byt b => unfold RepV at r; subst r; simp only [tyD, Option.some.injEq] at h; subst h; exact ⟨.byt b, by decide⟩
  | tup l =>
    unfold RepV at r
    obtain ⟨a, xs, rfl, t, rl⟩ := r
    simp only [tyD, Option.some.injEq] at h
    subst h
    refine ⟨?_, by decide⟩
    rcases t with ⟨_, t⟩ | ⟨_, o, its, n, hk, hc, _⟩
    · exact .base (.tup t)
    · exact .kTuple hk hc
  | lst l =>
    unfold RepV at r
    obtain ⟨a, xs, rfl, t, rl⟩ := r
    simp only [tyD, Option.some.injEq] at h
    subst h
    exact ⟨.base (.lst t.2), by decide⟩
  | ref a =>
    cases rv_ref r
    dsimp only [tyD] at h
    cases hg : G a with
    | none => rw [hg] at h; cases h
    | some o =>
      rw [hg] at h
      cases o with
      | lst l =>
        obtain ⟨xs, h1, rl⟩ := g a _ hg
        simp only [Option.some.injEq] at h
        subst h
        exact ⟨.base (.lst h1), by decide⟩
      | dct l =>
        obtain ⟨ws, h1, _⟩ := g a _ hg
        simp only [Option.some.injEq] at h
        subst h
        exact ⟨.base (.dK h1), by decide⟩
      | raw _ => cases h
      | ins _ _ => cases h
      | dtp _ => cases h
      | tab _ => cases h
      | slt _ _ => cases h
      | dny _ _ _ => cases h
  | scr _ => simp [tyD] at h
  | fn _ _ _ _ => simp [tyD] at h
  | exh _ _ _ _ _ => simp [tyD] at h
section
variable {X : Cx}
theorem de_isi {e : Expr} {te : DTE} {T : String} {Tn : Str} {p pT pos : Pos} (hT : T ∈ ["int", "bool", "str", "tuple", "list"]) (hg : Gl X "isinstance") (hm : X.mg "isinstance" = none) (hgT : Gl X Tn) (hmT : X.mg Tn = none) (hbT : bootBuiltins Tn = some (.type T)) (he : DE X e te)
    (hs : starEach [e, .Name Tn pT] X.env = (false, eval e X.env) :: starEach [.Name Tn pT] X.env := by rfl) (hs2 : starEach [.Name Tn pT] X.env = (false, eval (.Name Tn pT) X.env) :: starEach [] X.env := by rfl) (hpl : (backTo pos (starEach [.Name Tn pT] X.env)).any (·.1) = false := by rfl)
    (hn : Tn ≠ "__name__" := by decide) (hd : (Tn == ("__debug__" : Str)) = false := by decide) :
    DE X (.Call (.Name "isinstance" p) [e, .Name Tn pT] [] pos) (dIsi T te) := by
  refine (pe_callB call_isi hg hm PyProof.Rows.boot_isinstance (pa_cons he (pa_cons (pe_bltn (v := .ty T) hgT hmT hbT rfl hn hd) pa_nil hs2) hs) (he := hs) (hpl := hpl)).imp fun σ H Q ⟨ρ, G, q, r, h, k⟩ => ?_
  refine ⟨ρ, G, _, r, h, fun v d H1 G1 e1 r1 v1 h1 => ?_⟩
  cases e2 : tyD G1 d with
  | none => rw [e2] at h1; exact h1.elim
  | some t =>
    rw [e2] at h1
    obtain ⟨ty, tm⟩ := ty_of r1.gok v1 e2
    exact ⟨v, .ty T, .type t, .type T, subT t T, rfl, .ty T, ty, kit_ty (isi_tab t tm T hT), k _ _ H1 G1 e1 r1 bl_rv h1⟩
end
mutual
def fewD : D → Bool
  | .int i => decide (i.natAbs.log2 < 1920)
  | .tup ds => fewDs ds
  | .lst ds => fewDs ds
  | _ => true
def fewDs : List D → Bool
  | [] => true
  | d :: ds => fewD d && fewDs ds
end
mutual
theorem show_py : ∀ d : D, fewD d = true → (pyD d).showable = true
  | .non, _ => by simp [pyD, PyData.showable]
  | .bl _, _ => by simp [pyD, PyData.showable]
  | .int i, h => by simpa [pyD, PyData.showable, fewD] using h
  | .str x, _ => by simp [pyD, PyData.showable]
  | .tup ds, h => by simpa [pyD, PyData.showable] using shows_py ds (by simpa [fewD] using h)
  | .lst ds, h => by simpa [pyD, PyData.showable] using shows_py ds (by simpa [fewD] using h)
  | .byt _, h => by simp [pyD, PyData.showable]
  | .ref _, h => by simp [pyD, PyData.showable]
  | .scr _, h => by simp [pyD, PyData.showable]
  | .fn _ _ _ _, h => by simp [pyD, PyData.showable]
  | .exh _ _ _ _ _, h => by simp [pyD, PyData.showable]
theorem shows_py : ∀ ds : List D, fewDs ds = true → PyData.showableAll (pyDs ds) = true
  | [], _ => by simp [pyDs, PyData.showableAll]
  | d :: ds, h => by
    simp only [fewDs, Bool.and_eq_true] at h
    simp [pyDs, PyData.showableAll, show_py d h.1, shows_py ds h.2]
end
def shD (d : D) : Str := (pyD d).shown
def isSeqD : D → Bool
  | .tup _ => true
  | .lst _ => true
  | _ => false
structure Shw (d : D) : Prop where
  sq : isSeqD d = true
  ok : okD d
  few : fewD d = true
  len : (shD d).length ≤ sizeLine
@[simp] def rRepr : DRC := fun ds G Q => arg1 ds fun x => Shw (vw G x) ∧ Q (.str (shD (vw G x))) G
section
variable {X : Cx}
theorem c_repr (hgd : X.A.guards = some []) (hu : X.A.units + 70 < cLine) : DCall X (.builtin "repr") rRepr := by
  intro pins s σ H xs us Q I r ⟨G, ds, q, g, rl, h0, k⟩
  obtain ⟨d, rfl, hS, h⟩ := arg1_of h0
  obtain ⟨x, rfl, rx⟩ := repL_1 rl
  obtain ⟨u, rfl, ru⟩ := vals1 r
  have dp := vw_dp g rx hS.ok.1
  obtain ⟨as, rd⟩ := Dp.reads I _ x u dp ru
  obtain ⟨a, rfl⟩ : ∃ a, u = Value.ref a := by
    have hs := hS.sq
    cases e : vw G d with
    | tup l =>
      rw [e] at rd
      simp only [pyD] at rd
      cases rd
      exact ⟨_, rfl⟩
    | lst l =>
      rw [e] at rd
      simp only [pyD] at rd
      cases rd
      exact ⟨_, rfl⟩
    | _ => rw [e] at hs; simp [isSeqD] at hs
  have hnd := PyData.hasDict_of_canLay _ (lay_py _ hS.ok.1)
  have hdep : (pyD (vw G d)).depth ≤ 64 := by rw [depth_py]; exact hS.ok.2
  refine repr_of_reads' rd (show_py _ hS.few) (PyData.noDict_hsm hnd) hgd (by omega) (fun _ _ e => e) (fun h' u' tk hk => ?_) hS.len
  exact ⟨.str _, H, I.kept hk, ⟨_, rfl⟩, k _ _ H G (Ext.refl G H) g str_rv h⟩
end
@[simp] def dPairs : List (DTE × DTE) → DSt → GH → (List (D × D) → GH → Prop) → Prop
  | [], _, G, Q => Q [] G
  | (tk, tv) :: r, ρ, G, Q => tk ρ G fun x G1 => tv ρ G1 fun y G2 => dPairs r ρ G2 fun ps G3 => Q ((x, y) :: ps) G3
def keysD : List (D × D) → Option (List (Key × D))
  | [] => some []
  | p :: r => (match keyD p.1 with
    | some k => (keysD r).map ((k, p.2) :: ·)
    | none => none)
def mergeD (kvs : List (Key × D)) : List (Key × D) → List (Key × D)
  | [] => kvs
  | p :: r => mergeD (putD kvs p.1 p.2) r
@[simp] def dDisp (trs : List (DTE × DTE)) : DTE := fun ρ G Q => ∀ p, G p = none → dPairs trs ρ (updG G p (.dct [])) fun ps G2 => G2 p = some (.dct []) ∧ match keysD ps with
  | some kvs => kvs.length ≤ 15 ∧ Q (.ref p) (updG G2 p (.dct (mergeD [] kvs)))
  | none => False
def upTrs (K : PySem.W.Frag) (trs : List (DTE × DTE)) : List (TE × TE) := trs.map fun p => (up K p.1, up K p.2)
inductive RepP (K : PySem.W.Frag) (G : GH) (H : Hp) : List (D × D) → List (V × V) → Prop
  | nil : RepP K G H [] []
  | cons {d e : D} {x y : V} {ps : List (D × D)} {qs : List (V × V)} : RepV K G H d x → RepV K G H e y → RepP K G H ps qs → RepP K G H ((d, e) :: ps) ((x, y) :: qs)
theorem pairs_up {K : PySem.W.Frag} : ∀ {trs : List (DTE × DTE)} {σ : St} {H : Hp} {ρ : DSt} {G : GH} {Q : List (D × D) → GH → Prop} {Qv : List (V × V) → Hp → Prop}, DRel K σ H ρ G → dPairs trs ρ G Q →
    (∀ qs ps H' G', Ext G H G' H' → DRel K σ H' ρ G' → RepP K G' H' ps qs → Q ps G' → Qv qs H') → tPairs (upTrs K trs) σ H Qv
  | [], σ, H, ρ, G, Q, Qv, r, h, k => k [] [] H G (Ext.refl G H) r .nil h
  | (tk, tv) :: trs, σ, H, ρ, G, Q, Qv, r, h, k => by
    refine ⟨ρ, G, _, r, h, fun x dx H1 G1 e1 r1 v1 h1 => ?_⟩
    refine ⟨ρ, G1, _, r1, h1, fun y dy H2 G2 e2 r2 v2 h2 => ?_⟩
    refine pairs_up r2 h2 fun qs ps H3 G3 e3 r3 v3 h3 => ?_
    exact k _ _ H3 G3 ((e1.trans e2).trans e3) r3 (.cons (v1.ext (e2.trans e3)) (v2.ext e3) v3) h3
theorem keys_rep {K : PySem.W.Frag} {G : GH} {H : Hp} : ∀ {ps : List (D × D)} {qs : List (V × V)} {kvs : List (Key × D)}, RepP K G H ps qs → keysD ps = some kvs → ∃ ws : List (Key × V), qs = ws.map (fun kv => (kV kv.1, kv.2)) ∧ ws.map (·.1) = kvs.map (·.1) ∧ RepL K G H (kvs.map (·.2)) (ws.map (·.2))
  | _, _, kvs, .nil, h => by
    simp only [keysD, Option.some.injEq] at h
    subst h
    exact ⟨[], rfl, rfl, repL_nil⟩
  | _, _, kvs, .cons (d := d) (e := e) (x := x) (y := y) a b c, h => by
    unfold keysD at h
    cases hk : keyD d with
    | none => simp only [hk] at h; cases h
    | some k =>
      simp only [hk, Option.map_eq_some_iff] at h
      obtain ⟨ks, h1, rfl⟩ := h
      obtain ⟨ws, e1, e2, e3⟩ := keys_rep c h1
      refine ⟨(k, y) :: ws, ?_, ?_, ?_⟩
      · rw [key_rep a hk, e1]; rfl
      · simp [e2]
      · exact repL_cons b e3
theorem merge_rep {K : PySem.W.Frag} {G : GH} {H : Hp} : ∀ {kvs : List (Key × D)} {ws : List (Key × V)} {acc : List (Key × D)} {bcc : List (Key × V)}, ws.map (·.1) = kvs.map (·.1) → RepL K G H (kvs.map (·.2)) (ws.map (·.2)) → bcc.map (·.1) = acc.map (·.1) → RepL K G H (acc.map (·.2)) (bcc.map (·.2)) →
    (mergeK bcc ws).map (·.1) = (mergeD acc kvs).map (·.1) ∧ RepL K G H ((mergeD acc kvs).map (·.2)) ((mergeK bcc ws).map (·.2))
  | [], [], _, _, _, _, e, r => ⟨e, r⟩
  | [], _ :: _, _, _, e, _, _, _ => by simp at e
  | _ :: _, [], _, _, e, _, _, _ => by simp at e
  | p :: kvs, q :: ws, acc, bcc, e, r, e2, r2 => by
    simp only [List.map_cons, List.cons.injEq] at e
    simp only [List.map_cons] at r
    unfold RepL at r
    obtain ⟨x, t, e3, h1, h2⟩ := r
    simp only [List.cons.injEq] at e3
    obtain ⟨e4, e5⟩ := e3
    subst e4
    rw [← e5] at h2
    obtain ⟨i1, i2⟩ := putD_rep (k := p.1) h1 e2 r2
    have := merge_rep (acc := putD acc p.1 p.2) (bcc := putK bcc p.1 q.2) e.2 h2 i1 i2
    unfold mergeD
    show (mergeK (putK bcc q.1 q.2) ws).map _ = _ ∧ RepL K G H _ ((mergeK (putK bcc q.1 q.2) ws).map _)
    rw [e.1]
    exact this
section
variable {X : Cx}
abbrev DPs (X : Cx) (pos : Pos) (keys : List (Option Expr)) (values : List Expr) (trs : List (DTE × DTE)) : Prop := PPs X pos keys values (upTrs X.K trs)
theorem dps_nil {pos : Pos} : DPs X pos [] [] [] := pps_nil
theorem dps_cons {pos : Pos} {k v : Expr} {ks : List (Option Expr)} {vs : List Expr} {tk tv : DTE} {trs : List (DTE × DTE)} (hk : DE X k tk) (hv : DE X v tv) (hr : DPs X pos ks vs trs) : DPs X pos (some k :: ks) (v :: vs) ((tk, tv) :: trs) := pps_cons hk hv hr
theorem de_disp {pos : Pos} {keys : List (Option Expr)} {values : List Expr} {trs : List (DTE × DTE)} (h : DPs X pos keys values trs) (hall : keys.all (·.isSome) = true := by rfl) (hl : keys.length = values.length := by rfl) (h0 : keys ≠ [] := by exact List.cons_ne_nil _ _)
    (h15 : keys.length ≤ 15 := by decide) : DE X (.Dict keys values pos) (dDisp trs) := by
  refine (pe_disp h hall hl h0 h15).imp fun σ H Q ⟨ρ, G, q, r, h, k⟩ => fun p hp => ?_
  have e1 : Ext G H (updG G p (.dct [])) (upd H p (.dK [])) := Ext.newG hp
  have g1 : GOk X.K (updG G p (.dct [])) (upd H p (.dK [])) := r.gok.put e1 ⟨[], upd_same, rfl, repL_nil⟩
  refine pairs_up (r.ext e1 g1) (h p (r.gok.fresh hp)) fun qs ps H2 G2 e2 r2 v2 h2 => ?_
  obtain ⟨h3, h4⟩ := h2
  obtain ⟨ws, w1, w2, _⟩ := r2.gok p _ h3
  have ews : ws = [] := by simpa using w2
  subst ews
  refine ⟨w1, ?_⟩
  cases hk : keysD ps with
  | none => rw [hk] at h4; exact h4.elim
  | some kvs =>
    rw [hk] at h4
    obtain ⟨zs, z1, z2, z3⟩ := keys_rep v2 hk
    have hlen : zs.length = kvs.length := by simpa using congrArg List.length z2
    obtain ⟨m1, m2⟩ := merge_rep (acc := []) (bcc := []) z2 z3 rfl repL_nil
    have e3 : Ext G2 H2 (updG G2 p (.dct (mergeD [] kvs))) (upd H2 p (.dK (mergeK [] zs))) := Ext.write h3
    refine ⟨zs, z1, by rw [hlen]; exact h4.1, k _ _ _ _ ((e1.trans e2).trans e3) (r2.ext e3 (r2.gok.put e3 ⟨_, upd_same, m1, m2.ext e3⟩)) ref_rv h4.2⟩
end
section
variable {X : Cx} {k : Nat} {f : Addr} {fd : FuncData} {ps ks : List Str} {sp : DSp} {x : Str} {p pos : Pos} {kws : List Keyword} {tk : DTA} {nm : Option Str} {kpos : Pos} {e : Expr} {te : DTE}
theorem _root_.L2.PK.imp {t t' : TA} (h : PK X kws t) (i : ∀ σ H Q, t' σ H Q → t σ H Q) : PK X kws t' := ⟨fun pos pins s σ H Q I q => h.run pos pins s σ H Q I (i σ H Q q)⟩
abbrev DKw (X : Cx) (kws : List Keyword) (t : DTA) : Prop := PK X kws (upA X.K t)
theorem dk_nil : DKw X [] dNil := (pk_nil (X := X)).imp fun σ H Q ⟨ρ, G, q, r, h, k⟩ => k [] [] H G (Ext.refl G H) r repL_nil h
theorem dk_cons (he : DE X e te) (hr : DKw X kws tk) : DKw X (⟨nm, e, kpos⟩ :: kws) (dCons te tk) := by
  refine (pk_cons he hr).imp fun σ H Q ⟨ρ, G, q, r, h, k⟩ => ?_
  refine ⟨ρ, G, _, r, h, fun v d H1 G1 e1 r1 v1 h1 => ?_⟩
  refine ⟨ρ, G1, _, r1, h1, fun vs ds H2 G2 e2 r2 v2 h2 => ?_⟩
  exact k (v :: vs) (d :: ds) H2 G2 (e1.trans e2) r2 (repL_cons (v1.ext e2) v2) h2
@[simp] def dCallK (sp : DSp) (g : List D → List D) (tk : DTA) : DTE := fun ρ G Q => tk ρ G fun ds G1 => sp (g ds) G1 Q noX
structure KwB (K : PySem.W.Frag) (fd : FuncData) (ps ks : List Str) (g : {α : Type} → List α → List α) : Prop where
  to : ∀ (s : Shared) (ws : List Value), (g ws).length = ps.length → BindsTo s fd ⟨[], ks.zip ws⟩ (ps.zip (g ws))
  vals : ∀ {xs : List V} {us : List Value}, Vals xs us → Vals (g xs) (g us)
  reps : ∀ {G : GH} {H : Hp} {ds : List D} {xs : List V}, RepL K G H ds xs → RepL K G H (g ds) (g xs)
theorem de_callK {g : {α : Type} → List α → List α} (F : DFn X.prog X.w X.K X.mg X.base k f fd ps sp) (hr : Room k X.A) (hgd : X.A.guards = some []) (hg : Gl X x) (hm : X.mg x = some (.ref f)) (hk : PySem.W.keepIn X.K (.ref f) = true) (hb : KwB X.K fd ps ks g)
    (hkw : DKw X kws tk) (hall : (backToKw pos (keywordEach kws X.env)).all (·.1.isSome) = true := by rfl) (hks : (backToKw pos (keywordEach kws X.env)).filterMap (·.1) = ks := by rfl)
    (hdb : (x == ("__debug__" : Str)) = false := by decide) (hpl : ((backTo pos (starEach [] X.env)).any (·.1) || (backToKw pos (keywordEach kws X.env)).any (·.1.isNone)) = false := by rfl) : DE X (.Call (.Name x p) [] kws pos) (dCallK sp g tk) := by
  constructor
  intro pins s σ H Q I h
  obtain ⟨ρ, G, q, r, h, kk⟩ := h
  refine wpAny_Call_Name_kw (ld_glob I hg hm ?_ hdb)
  refine PySem.W.callWith_KW0 (h₀ := X.base) I.ok.mod.kin hk hall ?_ hpl
  refine thn (hkw.run pos pins s σ H (fun zs H1 => toSp X.K sp (g zs) H1 Q E0) I ⟨ρ, G, _, r, h, fun vs ds H1 G1 e1 r1 v1 h1 => ?_⟩) ?_
  · exact sp_at r1 (hb.reps v1) h1 fun v d H' G' e2 r2 v2 h2 => kk v d H' G' (e1.trans e2) r2 v2 h2
  · rintro us s1 ⟨zs, H1, I1, rz, q1⟩
    refine ⟨I1.kIn, ?_⟩
    rw [hks]
    have al : (g us).length = ps.length := (hb.vals rz).length.symm.trans (F.arity _ _ _ _ q1)
    refine wpAny_call (codeAny_mono (F.go X.A X.stack s1 H1 ⟨[], ks.zip us⟩ _ _ Q E0 hr hgd I1.env0 (hb.to s1 us al) (hb.vals rz) q1) ?_)
    intro res s2 hq
    match res, hq with
    | .error er, hq => exact hq.elim
    | .ok (.ret u), hq => exact I1.after hq
end
def PMs (X : Cx) (cs : List MatchCase) (t : V → TS) : Prop := ∀ (first : Bool) (pins : List (Addr × Obj)) (s : Shared) (σ : St) (H : Hp) (E : Ends) (v : V) (u : Value), Inv X pins σ H s → RelV v u → t v E σ H →
  wpAny (model X.prog X.w) X.A (matchCases cs X.env u first) (SP X pins E) X.xe s
section
variable {X : Cx}
theorem pms_any {body : List Stmt} {rest : List MatchCase} {tb : TS} {pos : Pos} (hb : PSs X body tb) : PMs X (⟨.MatchAs none none pos, none, body⟩ :: rest) (fun _ => tb) := fun first pins s σ H E v u I rv h =>
  wpAny_matchCases_cons (wpAny_matchPattern_Capture (PyProof.Rows.assignInOrder_nil (hb.run pins s σ H E I h)))
theorem pms_val {c : Str} {j : Nat} {p1 p2 : Pos} {body : List Stmt} {rest : List MatchCase} {tb : TS} {tr : V → TS} (hb : PSs X body tb) (hr : PMs X rest tr) :
    PMs X (⟨.MatchValue (.Constant (.str c) j p1) p2, none, body⟩ :: rest) (fun v E σ H => ∃ z, v = .str z ∧ if z = c then tb E σ H else tr v E σ H) := by
  intro first pins s σ H E v u I rv h
  obtain ⟨z, rfl, h⟩ := h
  refine wpAny_matchCases_cons (wpAny_matchPattern_Value (thn (pe_str.run pins s σ H (fun x H1 => x = .str c ∧ H1 = H) I ⟨rfl, rfl⟩) ?_))
  rintro w s1 ⟨x, H1, I1, rx, rfl, rfl⟩
  refine thn (op_eq pins s1 σ _ (.str z) (.str c) u w (fun y H2 => y = .bl (decide (z = c)) ∧ H2 = H1) I1 rv rx ⟨rfl, by simp, rfl⟩) ?_
  rintro b s2 ⟨y, H2, I2, ry, rfl, rfl⟩
  cases ry
  refine wpAny_truthy_bool ?_
  by_cases e : z = c
  · rw [if_pos e] at h
    rw [if_pos (by simpa using e)]
    exact PyProof.Rows.assignInOrder_nil (hb.run pins s2 σ _ E I2 h)
  · rw [if_neg e] at h
    rw [if_neg (by simpa using e)]
    exact hr false pins s2 σ _ E _ u I2 rv h
theorem ps_match {subj : Expr} {cs : List MatchCase} {te : TE} {t : V → TS} {pos : Pos} (he : PE X subj te) (hc : PMs X cs t) : PS X (.Match subj cs pos) (fun E σ H => te σ H fun v H1 => t v E σ H1) :=
  ⟨fun pins s σ H E I h => wpAny_Match (thn (he.run pins s σ H _ I h) fun u s1 ⟨v, H1, I1, rv, q⟩ => hc true pins s1 σ H1 E v u I1 rv q)⟩
@[simp] def dCases : List (Option Str × DTS) → D → DTS
  | [], _ => dNext
  | (none, t) :: _, _ => t
  | (some c, t) :: r, d => fun E ρ G => match d with
    | .str z => if z = c then t E ρ G else dCases r d E ρ G
    | _ => False
@[simp] def dMatch (te : DTE) (cs : List (Option Str × DTS)) : DTS := fun E ρ G => te ρ G fun d G1 => dCases cs d E ρ G1
def upMs (K : PySem.W.Frag) (cs : List (Option Str × DTS)) (v : V) : TS := fun Dv σ H => ∃ (ρ : DSt) (G : GH) (E : DEnds) (d : D), DRel K σ H ρ G ∧ RepV K G H d v ∧ dCases cs d E ρ G ∧
  (∀ σ' ρ' H' G', Ext G H G' H' → DRel K σ' H' ρ' G' → E.nx ρ' G' → Dv.nx σ' H') ∧
  (∀ v d H' G', Ext G H G' H' → GOk K G' H' → RepV K G' H' d v → E.rt d G' → Dv.rt v H') ∧
  (∀ σ' ρ' H' G', Ext G H G' H' → DRel K σ' H' ρ' G' → E.bk ρ' G' → Dv.bk σ' H') ∧
  (∀ σ' ρ' H' G', Ext G H G' H' → DRel K σ' H' ρ' G' → E.ct ρ' G' → Dv.ct σ' H')
abbrev DMs (X : Cx) (cs : List MatchCase) (ds : List (Option Str × DTS)) : Prop := PMs X cs (upMs X.K ds)
theorem dms_any {body : List Stmt} {rest : List MatchCase} {tb : DTS} {ds : List (Option Str × DTS)} {pos : Pos} (hb : DSs X body tb) : DMs X (⟨.MatchAs none none pos, none, body⟩ :: rest) ((none, tb) :: ds) := fun first pins s σ H E v u I rv ⟨ρ, G, E', d, r, rd, h, k1, k2, k3, k4⟩ =>
  pms_any hb first pins s σ H E v u I rv ⟨ρ, G, E', r, h, k1, k2, k3, k4⟩
theorem dms_val {c : Str} {j : Nat} {p1 p2 : Pos} {body : List Stmt} {rest : List MatchCase} {tb : DTS} {ds : List (Option Str × DTS)} (hb : DSs X body tb) (hr : DMs X rest ds) :
    DMs X (⟨.MatchValue (.Constant (.str c) j p1) p2, none, body⟩ :: rest) ((some c, tb) :: ds) := by
  rintro first pins s σ H E v u I rv ⟨ρ, G, E', d, r, rd, h, k1, k2, k3, k4⟩
  refine pms_val hb hr first pins s σ H E v u I rv ?_
  cases d with
  | str z =>
    cases rv_str rd
    refine ⟨z, rfl, ?_⟩
    dsimp only [dCases] at h
    by_cases e : z = c
    · rw [if_pos e] at h ⊢
      exact ⟨ρ, G, E', r, h, k1, k2, k3, k4⟩
    · rw [if_neg e] at h ⊢
      exact ⟨ρ, G, E', .str z, r, rd, h, k1, k2, k3, k4⟩
  | _ => exact h.elim
theorem ds_match {subj : Expr} {cs : List MatchCase} {te : DTE} {ds : List (Option Str × DTS)} {pos : Pos} (he : DE X subj te) (hc : DMs X cs ds) : DS X (.Match subj cs pos) (dMatch te ds) := by
  refine (ps_match he hc).imp fun D σ H ⟨ρ, G, E, r, h, k1, k2, k3, k4⟩ => ?_
  refine ⟨ρ, G, _, r, h, fun v d H1 G1 e r1 v1 h1 => ?_⟩
  exact ⟨ρ, G1, E, d, r1, v1, h1, fun a b c d e' => k1 a b c d (e.trans e'), fun a b c d e' => k2 a b c d (e.trans e'), fun a b c d e' => k3 a b c d (e.trans e'), fun a b c d e' => k4 a b c d (e.trans e')⟩
end
end Dl
namespace Dl
open PySem L2
section
open AutoSeq1 (wpAny_loadPart')
theorem enum_new_tuple (t : Addr) (items : Array Value) (n : Nat) (dct : Option Addr) (sl : Array (Option Value)) :
    Meets (Builtin.«enumerate.__new__» ⟨[.type "enumerate", .ref t], []⟩) (fun _ R s => s.heap.get? t = some { cls := .type "tuple", dict := dct, data := .seq items n, slots := sl } ∧
      R (.ok (.ret (.ref (s.heap.push { cls := .type "tuple_iterator", data := .fields #[.ref t, .int 0 0] }).objs.size)))
        { s with heap := (s.heap.push { cls := .type "tuple_iterator", data := .fields #[.ref t, .int 0 0] }).push { cls := .type "enumerate", data := .fields #[.none, .bool false, .ref s.heap.objs.size, rawInt 0, .none, .none] } }) :=
  .of_wp fun prog w A R st hh => by
    obtain ⟨hp, gg, dr, tk, os⟩ := st
    obtain ⟨hl, hR⟩ := hh
    have hsub := sub_enumerate
    have hT : Heap.IsTuple (Shared.heap ⟨hp, gg, dr, tk, os⟩) t items := ⟨_, hl, rfl, n, rfl⟩
    wp_walk using wpAny_loadPart' hl
    refine wpAny_stack_any fun stk => wpAny_pure ?_
    split
    · rename_i c _ _ _ _ _
      cases (c == Value.type "enumerate") <;> (wp_walk using wpAny_loadPart' hl, wpAny_pyIter_tuple hT; exact ⟨_, rfl, hR⟩)
    · wp_walk using wpAny_loadPart' hl, wpAny_pyIter_tuple hT
      exact ⟨_, rfl, hR⟩
theorem call_enum_tuple {prog : Program} {w : World} {A : Around} {E : Value → Shared → Prop} {s : Shared} {t : Addr} {items : Array Value} {Q : Value → Shared → Prop} (hT : s.heap.IsTuple t items)
    (h : ∀ h', IsEnum h' (s.heap.objs.size + 1) s.heap.objs.size 0 .none → h'.IsTupleIter s.heap.objs.size t 0 → h'.objs.size = s.heap.objs.size + 2 →
      (∀ b o, s.heap.get? b = some o → h'.get? b = some o) → Q (.ref (s.heap.objs.size + 1)) { s with heap := h' }) : wpAny (model prog w) A (PySem.call (.type "enumerate") [.ref t]) Q E s := by
  obtain ⟨⟨c, dct, dt, sl⟩, hl, hc, n, hd⟩ := hT
  simp only at hc hd
  subst hc hd
  refine callType_new F.called_enumerate (by decide) (F.typeCall_enumerate_1 _) (F.newCall_enumerate_1 _) (fun obj => F.args_object_init_2 obj _) F.entry_enumerate_new (enum_new_tuple t items n dct sl) ⟨hl, ?_⟩
  have sz : (s.heap.push { cls := .type "tuple_iterator", data := .fields #[.ref t, .int 0 0] }).objs.size = s.heap.objs.size + 1 := Heap.size_push ..
  have top := Heap.get?_push_size (s.heap.push { cls := .type "tuple_iterator", data := .fields #[.ref t, .int 0 0] }) (o := { cls := .type "enumerate", data := .fields #[.none, .bool false, .ref s.heap.objs.size, rawInt 0, .none, .none] }) rfl
  rw [sz] at top
  show _ ∧ _
  rw [sz]
  exact ⟨⟨_, top, rfl⟩, h _ top ⟨_, Heap.get?_push_of_some _ (Heap.get?_push_size _ rfl), rfl, rfl⟩ (by rw [Heap.size_push, sz]) fun b o q => Heap.get?_push_of_some _ (Heap.get?_push_of_some _ q)⟩
end
def Iet (K : PySem.W.Frag) (a : Addr) : It where
  go := fun i H => ∃ (xs : List V) (x : V), SqT K H a xs ∧ xs[i]? = some x
  yld := fun i H v H' => ∃ T x, v = .ref T ∧ H T = none ∧ H' = upd H T (.tup [.int (i : Nat), x]) ∧ ∀ xs, SqT K H a xs → xs[i]? = some x
  stop := fun i H => ∃ xs : List V, SqT K H a xs ∧ xs.length = i
theorem turn_enumT {P : Program} {w : World} {K : PySem.W.Frag} {elts : List Expr} {kk : Nat} {tpos : Pos} (a e it : Addr) :
    Turn P w K (.Tuple elts kk tpos) (Iet K a) [e, it] e (fun i h => (∃ old, IsEnum h e it ((i : Nat) : Int) old) ∧ h.IsTupleIter it a i ∧ e ≠ it) where
  mem := by simp
  obj := by
    rintro i h ⟨⟨old, he⟩, ⟨o, ho, hc, hd⟩, _⟩ b hb
    rcases (by simpa using hb : b = e ∨ b = it) with rfl | rfl
    · exact ⟨_, he, fun v q => nomatch q⟩
    · exact ⟨o, ho, fun v q => by rw [hd] at q; cases q⟩
  keep := by
    rintro i h h' ⟨⟨old, he⟩, hi, hne⟩ k
    exact ⟨⟨old, k e (by simp) _ he⟩, hi.at fun o q => k it (by simp) o q, hne⟩
  item := by
    rintro X rfl rfl rfl hc i pins s σ H E I hf ⟨⟨old, he⟩, hit, hne⟩ ⟨xs, x, hq, hx⟩
    obtain ⟨its, rv, tp, hz⟩ := I.tuple hq
    obtain ⟨u, hu, ru⟩ := rv.get hx
    have hel : e < s.heap.objs.size := Heap.lt_size he
    have hil : it < s.heap.objs.size := by obtain ⟨_, q, _⟩ := hit; exact Heap.lt_size q
    have htp : s.heap.IsTuple a its.toArray := tp
    have hai : a ≠ it := by
      rintro rfl
      obtain ⟨o1, q1, c1, _⟩ := htp
      obtain ⟨o2, q2, c2, _⟩ := hit
      rw [q1] at q2
      cases q2
      rw [c1] at c2
      simp at c2
    have hae : a ≠ e := by
      rintro rfl
      obtain ⟨o1, q1, c1, _⟩ := htp
      have q2 : s.heap.get? a = some _ := he
      rw [q1] at q2
      cases q2
      simp at c1
    have hlt : i < its.toArray.size := by
      have := (List.getElem?_eq_some_iff.mp hu).1
      simpa using this
    refine wpAny_pyNext_enum_itemC (Draws.tuple (show X.A.in1.handled = none from I.ok.hd hc) it a hai its.toArray) he ⟨hit, htp⟩ hlt hne (by simp [hne, hae.symm]) ?_
    intro y h' tk hy ho hst hT hsz hk
    have ey : y = u := by
      have hy2 : its.toArray[i]? = some y := hy
      rw [show its.toArray[i]? = its[i]? by simp] at hy2
      rw [hu] at hy2
      exact (Option.some.inj hy2).symm
    subst ey
    refine ⟨_, rfl, wpAny_letOwnedTupleGo_enum (s := { s with heap := h', toks := tk + 1 }) ho fun h2 he2 sb => ?_⟩
    have hT2 : h2.get? s.heap.objs.size = some { cls := .type "tuple", data := .seq #[.int i tk, y] } := (sb.2 _ (Nat.ne_of_gt hel)).trans hT
    have new : ObjOk X.prog X.w (upd H s.heap.objs.size (.tup [.int (i : Nat), x])) h2 s.heap.objs.size (.tup [.int (i : Nat), x]) :=
      ⟨by show 2 ≤ sizeLine; decide, [.int i tk, y], .cons ⟨_, rfl⟩ (.cons ru .nil), ⟨_, hT2, rfl, _, rfl⟩⟩
    have I1 : Inv X pins σ (upd H s.heap.objs.size (.tup [.int (i : Nat), x])) { s with heap := h2, toks := tk + 1 } :=
      I.turnedNew (ch := [e, it]) (fun b ob hb q => (sb.2 b (fun z => hb (by simp [z]))).trans (hk b ob (fun z => hb (by simp [z])) (fun z => hb (by simp [z])) q)) hf (Nat.le_refl _) new
    refine ⟨.ref s.heap.objs.size, _, I1, rfl, ⟨_, x, rfl, I.hok.fresh (Nat.le_refl _), rfl, fun ys hy => by rw [I.tuple_inj hy hq]; exact hx⟩, ⟨⟨y, ?_⟩, hst.1.at fun o q => (sb.2 it (Ne.symm hne)).trans q, hne⟩, fun b hb => ?_⟩
    · have e1 : ((i + 1 : Nat) : Int) = (i : Int) + 1 := by omega
      rw [e1]
      exact he2
    · have hb2 : b < s.heap.objs.size := by
        rcases (by simpa using hb : b = e ∨ b = it) with rfl | rfl
        · exact hel
        · exact hil
      rw [upd_ne (Nat.ne_of_lt hb2)]
      exact (hf b hb).1
  done := by
    rintro X rfl rfl rfl hc i pins s σ H E I hf ⟨⟨old, he⟩, hit, hne⟩ ⟨xs, hq, hx⟩
    obtain ⟨its, rv, tp, hz⟩ := I.tuple hq
    obtain ⟨f0, f1, f2, f3, f4, f5⟩ := hf it (by simp)
    have htp : s.heap.IsTuple a its.toArray := tp
    have hai : a ≠ it := by
      rintro rfl
      obtain ⟨o1, q1, c1, _⟩ := htp
      obtain ⟨o2, q2, c2, _⟩ := hit
      rw [q1] at q2
      cases q2
      rw [c1] at c2
      simp at c2
    have hl : its.toArray.size = i := by rw [List.size_toArray, ← rv.length]; exact hx
    subst hl
    exact wpAny_pyNext_enum_endD (Draws.tuple (show X.A.in1.handled = none from I.ok.hd hc) it a hai its.toArray) he ⟨hit, htp⟩ fun h' eb => ⟨rfl, I.turned (t' := s.toks) (fun b o hb q => eb b o hb q) f0 f1 f3 f4 f5⟩
  self := by
    rintro A i s Q E ⟨⟨_, he⟩, _⟩ h
    exact wpAny_pyIter_enum he h
section
variable {X : Cx}
def iEnumT (K : PySem.W.Frag) (ta : TA) : TI := fun σ H R => ta σ H fun vs H1 => ∃ a xs, vs = [.ref a] ∧ SqT K H1 a xs ∧ R (Iet K a) H1
theorem pi_enumT {e : Expr} {ta : TA} {p pos tpos : Pos} {elts : List Expr} {kk : Nat} (hg : Gl X "enumerate") (hm : X.mg "enumerate" = none) (ha : PA X [e] ta) (hs : starEach [e] X.env = [(false, eval e X.env)] := by rfl) :
    PI X (.Tuple elts kk tpos) (.Call (.Name "enumerate" p) [e] [] pos) (iEnumT X.K ta) := by
  constructor
  intro pins s σ H R I h
  refine PyProof.Rows.Call_ (ld_blt I hg hm PyProof.Rows.boot_enumerate (PyProof.Rows.callWith_type1 (thn (ha.run pos pins s σ H _ I h) ?_) hs rfl))
  rintro us s1 ⟨vs, H1, I1, r1, a, xs, rfl, hq, q⟩
  obtain ⟨u, rfl, ru⟩ := vals1 r1
  cases ru
  obtain ⟨its, rv, tp, hz⟩ := I1.tuple hq
  refine call_enum_tuple (show s1.heap.IsTuple a its.toArray from tp) fun h' he hit hsz hk => wpAny_pyIter_enum he ?_
  have I2 : Inv X pins σ H1 { s1 with heap := h' } := I1.kept (t' := s1.toks) hk
  refine ⟨s1.heap.objs.size + 1, [s1.heap.objs.size + 1, s1.heap.objs.size], _, _, H1, rfl, I2, turn_enumT a (s1.heap.objs.size + 1) s1.heap.objs.size, ⟨⟨.none, he⟩, hit, Nat.succ_ne_self _⟩, fun b hb => ?_, q⟩
  have hle : s1.heap.objs.size ≤ b := by
    rcases (by simpa using hb : b = s1.heap.objs.size + 1 ∨ b = s1.heap.objs.size) with rfl | rfl
    · exact Nat.le_add_right _ _
    · exact Nat.le_refl _
  exact I1.fpOk hle (I1.hok.fresh hle)
end
def enumD (ds : List D) : List D := (List.range ds.length).map fun i => D.tup [.int (i : Nat), ds.getD i .non]
theorem enumD_get {ds : List D} {i : Nat} {d : D} (h : (enumD ds)[i]? = some d) : ∃ x, ds[i]? = some x ∧ d = .tup [.int (i : Nat), x] := by
  unfold enumD at h
  rw [List.getElem?_map] at h
  by_cases hi : i < ds.length
  · rw [List.getElem?_range hi] at h
    simp only [Option.map_some, Option.some.injEq] at h
    exact ⟨ds[i], List.getElem?_eq_getElem hi, by rw [← h]; simp [hi]⟩
  · rw [List.getElem?_eq_none (by simpa using hi)] at h
    simp at h
theorem enumD_len (ds : List D) : (enumD ds).length = ds.length := by simp [enumD]
@[simp] def iEnT (te : DTE) : DTI := fun ρ G Q => te ρ G fun d G1 => match d with
  | .tup ds => Q (enumD ds) okAll G1
  | _ => False
section
variable {X : Cx}
theorem di_enumT {e : Expr} {te : DTE} {p pos tpos : Pos} {elts : List Expr} {kk : Nat} (hg : Gl X "enumerate") (hm : X.mg "enumerate" = none) (he : DE X e te) (hs : starEach [e] X.env = [(false, eval e X.env)] := by rfl) :
    DI X (.Tuple elts kk tpos) (.Call (.Name "enumerate" p) [e] [] pos) (iEnT te) := by
  refine (pi_enumT hg hm (pa_cons he pa_nil (by rw [hs]; rfl)) hs).imp fun σ H R ⟨ρ, G, q, r, h, k⟩ => ?_
  refine ⟨ρ, G, _, r, h, fun v d H1 G1 e1 r1 v1 h1 => ?_⟩
  cases d with
  | tup ds =>
    unfold RepV at v1
    obtain ⟨a, xs, rfl, ta, rl⟩ := v1
    refine ⟨a, xs, rfl, ta.sq, k _ (enumD ds) okAll H1 G1 e1 r1 (fun G2 H2 e2 g2 _ i => ⟨fun d hd => ?_, fun hi => ⟨xs, (ta.ext e2).sq, by rw [rl.length, hi, enumD_len]⟩⟩) h1⟩
    obtain ⟨x, hx, rfl⟩ := enumD_get hd
    obtain ⟨w, hw, rw'⟩ := (rl.ext e2).get hx
    refine ⟨⟨xs, w, (ta.ext e2).sq, hw⟩, fun y H3 hy => ?_⟩
    obtain ⟨T, z, rfl, hT, rfl, hz⟩ := hy
    have ez := hz xs (ta.ext e2).sq
    rw [hw] at ez
    cases ez
    obtain ⟨e3, g3, v3⟩ := new_tup g2 hT (repL_cons (int_rv (i := (i : Nat))) (repL_one rw'))
    exact ⟨e3, g3, v3⟩
  | _ => exact h1.elim
end
end Dl
namespace Dl
open PySem PySem.Spec PyProof.Rows L2
theorem law_go {P : Program} {w : World} {K : PySem.W.Frag} {mg mb : Str → Option Value} {k : Nat} {fa a : Addr} {fd : FuncData} {x : Str} {sp : DSp} {st : Shared} {vs : List Value} {ns : List Int}
    (kin : K.In st.heap) (gl : st.heap.Ns mainGlobals mg) (bl : st.heap.Ns builtinsNs mb) (bb : ∀ y : Str, y ≠ "__name__" → mb y = bootBuiltins y) (lim : st.heap.NoLimit) (hg : st.gens = #[])
    (ha : st.heap.get? a = some { cls := .type "list", data := .seq vs.toArray }) (hi : IntsAre vs ns) (hl : ns.length ≤ sizeLine) (hr : Room k callerA) (hgd : callerA.guards = some [])
    (F : ∀ base : Heap, K.In base → base.Ns mainGlobals mg → DFn P w K mg base k fa fd [x] sp) (bind : ∀ (s : Shared) (u : Value), BindsTo s fd ⟨[u], []⟩ [(x, u)])
    (hsp : sp [.scr ns] (fun _ => none) (fun d _ => d = .bl true) noX) :
    codeAny (model P w) callerA (.call (.ref fa) ⟨[.ref a], []⟩) (fun r s' => r = .ok (.ret (.bool true)) ∧ OldK st.heap s'.heap ∧ s'.os = st.os ∧ AllBare s'.gens) st := by
  have rv : Vals (ns.map V.int) vs := vals_of_ints hi
  have ln : vs.length = ns.length := hi.length
  let ob : Obj := { cls := .type "list", data := .seq vs.toArray }
  let fz : HO := .frz ob (.lst (ns.map V.int))
  obtain ⟨H, h1, h2, h3⟩ : ∃ H : Hp, (∀ b, H b = none ∨ (b = a ∧ H b = some fz)) ∧ ScrAt K (fun _ => none) H a (ns.map V.int) ∧ (∀ b o, K.lookup b = some o → H b = none) := by
    cases q : K.lookup a with
    | some o =>
      have e := kin a o q
      rw [ha] at e
      cases e
      refine ⟨fun _ => none, fun _ => .inl rfl, .inr ⟨_, vs.toArray, _, q, rfl, rfl, rfl, ?_, ?_⟩, fun _ _ _ => rfl⟩
      · rw [List.size_toArray, ln]; exact hl
      · simpa using rv
    | none =>
      refine ⟨fun b => if b = a then some fz else none, fun b => ?_, .inl ⟨rfl, .inr ⟨ob, if_pos rfl⟩⟩, fun b o e => ?_⟩
      · by_cases e : b = a
        · exact .inr ⟨e, if_pos e⟩
        · exact .inl (if_neg e)
      · refine if_neg ?_
        rintro rfl
        rw [q] at e
        cases e
  have dicts : ∀ {b : Addr} {o : Obj} {es : Array DictEntry} {ep : Nat}, st.heap.get? b = some o → o.data = .dict es ep → H b = none := by
    intro b o es ep e d
    rcases h1 b with z | ⟨rfl, _⟩
    · exact z
    · rw [ha] at e
      cases e
      cases d
  have keep : ∀ {b : Addr} {m : Str → Option Value}, st.heap.Ns b m → (hidT st.heap H).Ns b m := by
    rintro b m ⟨o, es, ep, e, d, r⟩
    exact ⟨o, es, ep, hidT_get e (dicts e d), d, r⟩
  have kin2 : K.In (hidT st.heap H) := fun b o e => hidT_get (kin b o e) (h3 b o e)
  have ok : HOk P w H st.heap := by
    intro b u e
    rcases h1 b with z | ⟨rfl, z⟩
    · rw [z] at e; cases e
    · rw [z] at e
      cases e
      exact ⟨ha, by rw [List.length_map]; exact hl, vs, _, rv, ha⟩
  obtain ⟨ml, l1, l2⟩ := lim
  have e0 : Env0 P w K mg (hidT st.heap H) callerA [] st H :=
    { frames := rfl, mod := ⟨kin2, keep gl, ⟨mb, keep bl, bb⟩, ⟨ml, keep l1, l2⟩⟩, bs := fun b o e => of_hidT e, bsz := Nat.le_of_eq (hidT_size _ _), funs := trivial, frf := fun b hb => absurd (show b ∈ ([] : List Addr) from hb) (by simp), hok := ok, bare := .of_eq hg }
  have gok : GOk K (fun _ => none) H := fun b o e => nomatch e
  have rep : RepL K (fun _ => none) H [.scr ns] [.ref a] := repL_one (by unfold RepV; exact ⟨a, rfl, h2⟩)
  have prom : toSp K sp [.ref a] H (fun v _ => v = .bl true) E0 := ⟨_, _, _, noX, rep, gok, hsp, fun v d H' G' _ _ r q => by
    have q' : d = .bl true := q
    subst q'
    exact rv_bl r, fun _ _ _ _ _ _ _ _ z => z.elim⟩
  refine codeAny_mono ((F _ kin2 (keep gl)).go callerA [] st H ⟨[.ref a], []⟩ [.ref a] [.ref a] _ _ hr hgd e0 (bind st (.ref a)) (.cons rfl .nil) prom) ?_
  intro r s2 hq
  match r, hq with
  | .ok (.ret u), hq =>
    obtain ⟨v, H2, os, bare, un, ok2, ru, qv⟩ := hq
    have qv' : v = .bl true := qv
    subst qv'
    obtain rfl : u = Value.bool true := ru
    refine ⟨rfl, OldK.of_keep ?_, os, bare⟩
    intro b o e
    rcases h1 b with z | ⟨rfl, z⟩
    · exact un.keep b o e z (by simp [frs]) (by simp)
    · have z2 := un.frzs _ ob _ z
      obtain ⟨e1, _⟩ := ok _ _ z
      obtain ⟨e2, _⟩ := ok2 _ _ z2
      rw [e] at e1
      cases e1
      exact e2
theorem d_walk {l : PySem.W.OpenLaw} {n k : Nat} {q : Program} {loose : List Str} {XP : (Str → Option Value) → Heap → Prop} {YP : World → Heap → Prop} {d : DefRec} {x : Str}
    (hn : l.most = some n) (hn2 : n ≤ sizeLine) (hdf : d.params.defaults = []) (hr : Room k callerA) (hgd : callerA.guards = some [])
    (F : ∀ (w : World) (mg : Str → Option Value) (fa : Addr) (h : Heap), YP w h → h.Ns mainGlobals mg → mg d.name = some (.ref fa) →
      ∃ (K : PySem.W.Frag) (fd : FuncData) (sp : DSp), K.In h ∧ (∀ (s : Shared) (u : Value), BindsTo s fd ⟨[u], []⟩ [(x, u)]) ∧
        (∀ ns : List Int, ns.length ≤ n → sp [.scr ns] (fun _ => none) (fun d _ => d = .bl true) noX) ∧
        ∀ base : Heap, K.In base → base.Ns mainGlobals mg → DFn l.prog w K mg base k fa fd [x] sp) :
    PySem.W.WalkO q loose XP YP l.row.toRowW d [] (fun f vs => PySem.call f vs) := by
  refine Att.attach_call hn hdf ?_
  intro w s0 s1 mg mb fa o pm cd doc a vs ns G Y ho hd hcd hmg hobj hints hlen hg
  obtain ⟨K, fd, sp, kin, hb, hsp, hF⟩ := F w mg fa _ Y G.T.g hmg
  exact law_go kin G.T.g G.T.b G.T.builtins G.T.nolimit hg hobj hints (Nat.le_trans hlen hn2) hr hgd hF hb (hsp ns hlen)
end Dl
namespace Dl
open PySem L2
@[simp] def dNeg (te : DTE) : DTE := fun ρ G Q => te ρ G fun d G1 => match d with
  | .int i => Q (.int (-i)) G1
  | _ => False
section
variable {X : Cx}
theorem pi_seq {tg l : Expr} {tl : TE} (hl : PE X l tl) : PI X tg l (fun σ H R => tl σ H fun x H1 => (∃ a, x = .ref a ∧ (∃ xs, SqL X.K H1 a xs) ∧ R (Itl X.K a) H1) ∨ ∃ a, x = .ref a ∧ (∃ xs, SqT X.K H1 a xs) ∧ R (Itt X.K a) H1) := by
  constructor
  intro pins s σ H R I h
  refine thn (hl.run pins s σ H _ I h) ?_
  rintro v s1 ⟨x, H1, I1, r1, q1⟩
  have fp : ∀ b ∈ [s1.heap.objs.size], FpOk X pins H1 b := by
    intro b hb
    obtain rfl : b = s1.heap.objs.size := by simpa using hb
    exact I1.fpOk (Nat.le_refl _) (I1.hok.fresh (Nat.le_refl _))
  rcases q1 with ⟨a, rfl, ⟨xs, hq⟩, q⟩ | ⟨a, rfl, ⟨xs, hq⟩, q⟩
  · cases r1
    obtain ⟨its, rv, p, hz⟩ := I1.list hq
    exact wpAny_pyIter_list p.isList ⟨_, [s1.heap.objs.size], _, _, H1, rfl, I1.kept (t' := s1.toks) (fun b o e => Heap.get?_push_of_some _ e), turn_list a _, ⟨_, Heap.get?_push_size _ rfl, rfl, rfl⟩, fp, q⟩
  · cases r1
    obtain ⟨its, rv, p, hz⟩ := I1.tuple hq
    exact wpAny_pyIter_tuple (show s1.heap.IsTuple a its.toArray from p) ⟨_, [s1.heap.objs.size], _, _, H1, rfl, I1.kept (t' := s1.toks) (fun b o e => Heap.get?_push_of_some _ e), turn_tuple a _, ⟨_, Heap.get?_push_size _ rfl, rfl, rfl⟩, fp, q⟩
@[simp] def iSq (te : DTE) : DTI := fun ρ G Q => te ρ G fun d G1 => match d with
  | .tup ds => Q ds okAll G1
  | .lst ds => Q ds okAll G1
  | .ref a => (match G1 a with
    | some (.lst ds) => Q ds (fun G => G a = some (.lst ds)) G1
    | _ => False)
  | _ => False
theorem di_seq {tg e : Expr} {te : DTE} (he : DE X e te) : DI X tg e (iSq te) := by
  refine (pi_seq he).imp fun σ H R ⟨ρ, G, q, r, h, k⟩ => ?_
  refine ⟨ρ, G, _, r, h, fun v d H1 G1 e1 r1 v1 h1 => ?_⟩
  cases d with
  | tup ds =>
    unfold RepV at v1
    obtain ⟨a, xs, rfl, ta, rl⟩ := v1
    refine .inr ⟨a, rfl, ⟨xs, ta.sq⟩, k _ ds okAll H1 G1 e1 r1 (fun G2 H2 e2 g2 _ i => ⟨fun d hd => ?_, fun hi => ⟨xs, (ta.ext e2).sq, by rw [rl.length]; exact Nat.le_of_eq hi.symm⟩⟩) h1⟩
    obtain ⟨x, hx, rx⟩ := (rl.ext e2).get hd
    refine ⟨⟨xs, x, (ta.ext e2).sq, hx⟩, fun y H3 hy => ?_⟩
    obtain ⟨rfl, hy⟩ := hy
    have e := hy xs (ta.ext e2).sq
    rw [hx] at e
    cases e
    exact ⟨Ext.refl _ _, g2, rx⟩
  | lst ds =>
    unfold RepV at v1
    obtain ⟨a, xs, rfl, ta, rl⟩ := v1
    refine .inl ⟨a, rfl, ⟨xs, ta.sq⟩, k _ ds okAll H1 G1 e1 r1 (fun G2 H2 e2 g2 _ i => ⟨fun d hd => ?_, fun hi => ⟨xs, (ta.ext e2).sq, by rw [rl.length]; exact Nat.le_of_eq hi.symm⟩⟩) h1⟩
    obtain ⟨x, hx, rx⟩ := (rl.ext e2).get hd
    refine ⟨⟨xs, x, (ta.ext e2).sq, hx⟩, fun y H3 hy => ?_⟩
    obtain ⟨rfl, hy⟩ := hy
    have e := hy xs (ta.ext e2).sq
    rw [hx] at e
    cases e
    exact ⟨Ext.refl _ _, g2, rx⟩
  | ref a =>
    cases rv_ref v1
    dsimp only at h1
    cases hg : G1 a with
    | none => rw [hg] at h1; exact h1.elim
    | some o =>
      rw [hg] at h1
      cases o with
      | lst ds =>
        obtain ⟨xs, hx, rx⟩ := r1.gok a _ hg
        refine .inl ⟨a, rfl, ⟨xs, SqL.of hx⟩, k _ ds (fun G => G a = some (.lst ds)) H1 G1 e1 r1 (fun G2 H2 e2 g2 ho i => ?_) h1⟩
        obtain ⟨ys, hy, ry⟩ := g2 a _ ho
        refine ⟨fun d hd => ?_, fun hi => ⟨ys, SqL.of hy, by rw [ry.length]; exact Nat.le_of_eq hi.symm⟩⟩
        obtain ⟨x, hx, rx⟩ := ry.get hd
        refine ⟨⟨ys, x, SqL.of hy, hx⟩, fun z H3 hz => ?_⟩
        obtain ⟨rfl, hz⟩ := hz
        have e := hz ys (SqL.of hy)
        rw [hx] at e
        cases e
        exact ⟨Ext.refl _ _, g2, rx⟩
      | dct _ => exact h1.elim
      | raw _ => exact h1.elim
      | ins _ _ => exact h1.elim
      | dtp _ => exact h1.elim
      | tab _ => exact h1.elim
      | slt _ _ => exact h1.elim
      | dny _ _ _ => exact h1.elim
  | _ => exact h1.elim
theorem dt_din (hu : X.A.units + 1 < cLine) {f : Bool → Bool} {op : CmpOp} {i o : Expr} {ty td : DTE} {pos : Pos} (hop : op = .In ∧ f = id ∨ op = .NotIn ∧ f = not) (hi : DE X i ty) (ho : DE X o td) (hm : behindInMarks op o = false) : DT X (.Compare i [op] [o] pos) (dTst (dOp (rDIn f) ty td)) := by
  have core : ∀ σ H Q, up X.K (dOp (rDIn f) ty td) σ H Q → up X.K ty σ H fun y H1 => up X.K td σ H1 fun x H2 => ∃ a ov, x = .ref a ∧ DGet H2 a y ov ∧ Q (.bl (f ov.isSome)) H2 := fun σ H Q ⟨ρ, G, q, r, h, k⟩ => by
    refine ⟨ρ, G, _, r, h, fun y dy H1 G1 e1 r1 v1 h1 => ?_⟩
    refine ⟨ρ, G1, _, r1, h1, fun x dx H2 G2 e2 r2 v2 h2 => ?_⟩
    obtain ⟨a, kvs, ws, rfl, rfl, hg, h2, w1, w2, w3⟩ := dct_of r2.gok v2 h2
    obtain ⟨kk, hk, h2⟩ := keyP_of h2
    cases key_rep (v1.ext e2) hk
    refine ⟨a, valV ws kk, rfl, DGet.k w1, k _ _ H2 G2 (e1.trans e2) r2 ?_ h2⟩
    have gr := getK_rep (k := kk) w2 w3
    have e4 : (valV ws kk).isSome = (getK kvs kk).isSome := by
      cases hd : getK kvs kk with
      | none => rw [hd] at gr; rw [gr] <;> rfl
      | some d => rw [hd] at gr; obtain ⟨w, e3, _⟩ := gr; rw [e3] <;> rfl
    rw [e4]
    exact bl_rv
  rcases hop with ⟨rfl, rfl⟩ | ⟨rfl, rfl⟩
  · exact (pt_cmp (pc_din hu hi ho) hm).imp fun σ H Q h => core σ H _ (up_tst h)
  · exact (pt_cmp (pc_dnotin hu hi ho) hm).imp fun σ H Q h => core σ H _ (up_tst h)
end
structure Callee (P : Program) (w : World) (K : PySem.W.Frag) (mg : Str → Option Value) (base : Heap) (k : Nat) (x : Str) (ps : List Str) (sp : DSp) : Prop where
  ex : ∃ f fd, DFn P w K mg base k f fd ps sp ∧ mg x = some (.ref f) ∧ PySem.W.keepIn K (.ref f) = true ∧ Binds K fd ps [] ∧ KwB K fd ps ps (fun l => l)
theorem Callee.up {P : Program} {w : World} {K : PySem.W.Frag} {mg : Str → Option Value} {base : Heap} {j k : Nat} {x : Str} {ps : List Str} {sp : DSp} (C : Callee P w K mg base j x ps sp) (h : j ≤ k) : Callee P w K mg base k x ps sp := by
  obtain ⟨f, fd, F, a⟩ := C.ex
  exact ⟨f, fd, F.up h, a⟩
section
variable {X : Cx} {k : Nat} {x : Str} {ps : List Str} {sp : DSp} {p pos : Pos} {e : Expr} {es : List Expr} {ta : DTA} {kws : List Keyword}
theorem dc (C : Callee X.prog X.w X.K X.mg X.base k x ps sp) (hr : Room k X.A) (hgd : X.A.guards = some []) (hg : Gl X x) (ha : DA X (e :: es) ta) (hdb : (x == ("__debug__" : Str)) = false := by decide)
    (he : starEach (e :: es) X.env = (false, eval e X.env) :: starEach es X.env := by rfl) (hpl : (backTo pos (starEach es X.env)).any (·.1) = false := by rfl) : DE X (.Call (.Name x p) (e :: es) [] pos) (dCall sp ta) := by
  obtain ⟨f, fd, F, hm, hk, hb, _⟩ := C.ex
  exact de_call F hr hgd hg hm hk hb ha hdb he hpl
theorem dc0 (C : Callee X.prog X.w X.K X.mg X.base k x ps sp) (hr : Room k X.A) (hgd : X.A.guards = some []) (hg : Gl X x) (hdb : (x == ("__debug__" : Str)) = false := by decide) : DE X (.Call (.Name x p) [] [] pos) (dCall sp dNil) := by
  obtain ⟨f, fd, F, hm, hk, hb, _⟩ := C.ex
  exact de_call0 F hr hgd hg hm hk hb hdb
theorem dck (C : Callee X.prog X.w X.K X.mg X.base k x ps sp) (hr : Room k X.A) (hgd : X.A.guards = some []) (hg : Gl X x) (hkw : DKw X kws ta) (hall : (backToKw pos (keywordEach kws X.env)).all (·.1.isSome) = true := by rfl)
    (hks : (backToKw pos (keywordEach kws X.env)).filterMap (·.1) = ps := by rfl) (hdb : (x == ("__debug__" : Str)) = false := by decide)
    (hpl : ((backTo pos (starEach [] X.env)).any (·.1) || (backToKw pos (keywordEach kws X.env)).any (·.1.isNone)) = false := by rfl) : DE X (.Call (.Name x p) [] kws pos) (dCall sp ta) := by
  obtain ⟨f, fd, F, hm, hk, _, hb⟩ := C.ex
  exact de_callK (g := fun l => l) F hr hgd hg hm hk hb hkw hall hks hdb hpl
theorem callee_of {P : Program} {w : World} {K : PySem.W.Frag} {mg : Str → Option Value} {base : Heap} {qual : Str} {params : Arguments} {body : List Stmt} {scope : Scope} {f : Addr} {fd : FuncData}
    (F : FunD K x qual params body scope [] [] f fd) (hm : mg x = some (.ref f)) (D : DFn P w K mg base k f fd ps sp)
    (b1 : ∀ (kV doc pm : Value) (an : Option Addr) (cdv ct : Value) (us : List Value), us.length = ps.length → bindArgs (PySem.W.fnOf x qual params body scope .none kV doc pm an cdv ct) ⟨us, []⟩ = pure (ps.zip us))
    (b2 : ∀ (kV doc pm : Value) (an : Option Addr) (cdv ct : Value) (us : List Value), us.length = ps.length → bindArgs (PySem.W.fnOf x qual params body scope .none kV doc pm an cdv ct) ⟨[], ps.zip us⟩ = pure (ps.zip us)) : Callee P w K mg base k x ps sp := by
  refine ⟨f, fd, D, hm, F.kp, F.bindsN b1, ⟨?_, fun r => r, fun r => r⟩⟩
  intro s ws hl
  obtain ⟨oc, od, dV, kV, doc, pm, an, cdv, ct, osl, rfl, lk, hcd, hD, hK⟩ := F.ex
  rcases hD with ⟨_, rfl⟩ | ⟨e, _⟩
  · exact .of_eq (b2 kV doc pm an cdv ct ws hl)
  · exact absurd rfl e
end
mutual
theorem repB_ok {K : PySem.W.Frag} : ∀ {d : D} {u : Value}, repB K d u = true → ∃ v, RelV v u ∧ ∀ G H, RepV K G H d v
  | .non, u, h => by
    unfold repB at h
    cases u with
    | none => exact ⟨.non, rfl, fun _ _ => non_rv⟩
    | _ => cases h
  | .bl b, u, h => by
    unfold repB at h
    cases u with
    | bool c => exact ⟨.bl c, rfl, fun _ _ => by rw [eq_of_beq h]; exact bl_rv⟩
    | _ => cases h
  | .int i, u, h => by
    unfold repB at h
    cases u with
    | int j t => exact ⟨.int i, ⟨t, by rw [of_decide_eq_true h]⟩, fun _ _ => int_rv⟩
    | _ => cases h
  | .str i, u, h => by
    unfold repB at h
    cases u with
    | str j t => exact ⟨.str i, ⟨t, by rw [of_decide_eq_true h]⟩, fun _ _ => str_rv⟩
    | _ => cases h
  | .tup ds, u, h => by
    unfold repB at h
    cases u with
    | ref a =>
      dsimp only at h
      cases q : K.lookup a with
      | none => rw [q] at h; cases h
      | some o =>
        obtain ⟨oc, od, dt, osl⟩ := o
        rw [q] at h
        cases oc with
        | type c =>
          cases dt with
          | seq its n =>
            dsimp only at h
            rw [Bool.and_eq_true, Bool.and_eq_true, Bool.and_eq_true] at h
            obtain ⟨h1, h2, h0, h3⟩ := h
            obtain ⟨xs, rl, rp⟩ := repBs_ok h3
            refine ⟨.ref a, rfl, fun G H => ?_⟩
            have hx : xs = [] → kempB K = true := fun hx => by
              cases ds with
              | nil => simpa using h0
              | cons d ds =>
                have z := rp G H
                unfold RepL at z
                obtain ⟨_, _, e, _⟩ := z
                rw [hx] at e; cases e
            unfold RepV
            exact ⟨a, xs, rfl, .inr ⟨hx, _, its, n, q, by rw [of_decide_eq_true h1], rfl, of_decide_eq_true h2, rl⟩, rp G H⟩
          | _ => cases h
        | _ => cases dt <;> cases h
    | _ => cases h
  | .byt _, u, h => by unfold repB at h; cases h
  | .lst _, u, h => by unfold repB at h; cases h
  | .ref _, u, h => by unfold repB at h; cases h
  | .scr _, u, h => by unfold repB at h; cases h
theorem repBs_ok {K : PySem.W.Frag} : ∀ {ds : List D} {us : List Value}, repBs K ds us = true → ∃ xs, Vals xs us ∧ ∀ G H, RepL K G H ds xs
  | [], [], _ => ⟨[], .nil, fun _ _ => repL_nil⟩
  | [], _ :: _, h => by unfold repBs at h; cases h
  | _ :: _, [], h => by unfold repBs at h; cases h
  | d :: ds, u :: us, h => by
    unfold repBs at h
    rw [Bool.and_eq_true] at h
    obtain ⟨v, r1, p1⟩ := repB_ok h.1
    obtain ⟨xs, r2, p2⟩ := repBs_ok h.2
    exact ⟨v :: xs, .cons r1 r2, fun G H => repL_cons (p1 G H) (p2 G H)⟩
end
theorem dat_ok {K : PySem.W.Frag} {h : Heap} {mg : Str → Option Value} (X : K.In h) (G : h.Ns mainGlobals mg) {x : Str} {d : D} (c : (Fx.dat x d).ok K = true) : ∃ u, mg x = some u ∧ ∃ v, RelV v u ∧ ∀ G H, RepV K G H d v := by
  have c2 : (match PySem.W.nsIn K mainGlobals x with
    | some (some u) => repB K d u
    | _ => false) = true := c
  cases e : PySem.W.nsIn K mainGlobals x with
  | none => rw [e] at c2; cases c2
  | some o =>
    rw [e] at c2
    cases o with
    | none => cases c2
    | some u => exact ⟨u, PySem.W.mg_of X G e, repB_ok c2⟩
theorem obsXG_eq {n : Nat} {fx : List Fx} {fn : List He.DefD} {g : Addr → Option Obj} {s : Shared} (h : ∀ a, g a = s.heap.get? a) : obsXG n fx fn g = (hookX n fx fn).obs s := by
  have e : g = s.heap.get? := funext h
  rw [e] <;> rfl
section
variable {fx : List Fx} {fn : List He.DefD} {K : PySem.W.Frag}
theorem SaysX.fact (c : SaysX fx fn K) (i : Nat) {f : Fx} (h : fx[i]? = some f := by rfl) : f.ok K = true := by
  have c1 := (He.ba (show ((fx.all fun f => f.ok K) && fn.all fun d => d.ok K) = true from congrArg (fun z : He.AlD => z.1) c)).1
  exact List.all_eq_true.mp c1 f (List.mem_of_getElem? h)
theorem SaysX.def_ (c : SaysX fx fn K) (i : Nat) {d : He.DefD} (h : fn[i]? = some d := by rfl) : ∃ fd, FunD K d.name d.qual d.params d.body d.scope (d.dvs K) (d.kws K) (He.fAd K d.at_) fd := by
  have c2 := (He.ba (show ((fx.all fun f => f.ok K) && fn.all fun d => d.ok K) = true from congrArg (fun z : He.AlD => z.1) c)).2
  have e : fn.map (fun d => He.fnW K d.at_) = fn.map He.DefD.val := congrArg (fun z : He.AlD => z.2) c
  have e2 : (fn.map fun d => He.fnW K d.at_)[i]? = (fn.map He.DefD.val)[i]? := by rw [e]
  rw [List.getElem?_map, List.getElem?_map, h] at e2
  exact He.DefD.funD (Option.some.inj e2) (List.all_eq_true.mp c2 d (List.mem_of_getElem? h))
end
end Dl
namespace K22
open PySem L2 Dl
open PyProof.Rows
theorem ob_eq (s : PySem.W.SharedT) : ob s = hk.obs s.abs := obsXG_eq (HandSHeadRun.getT_eq s)
open PySem PySem.W PySem.Calls PyProof.Rows in
theorem head_of {sp : DSp} (hsp : ∀ ns : List Int, ns.length ≤ 63 → sp [.scr ns] (fun _ => none) (fun d _ => d = .bl true) noX)
    (F : ∀ (w : World) (mg : Str → Option Value) (fa : Addr) (h : Heap) (K : PySem.W.Frag), K.In h → SaysX fx fn K → h.Ns mainGlobals mg → mg ("law" : Str) = some (.ref fa) →
      ∃ fd : FuncData, (∀ (s : Shared) (v : Value), BindsTo s fd ⟨[v], []⟩ [("_law_script", v)]) ∧ ∀ base : Heap, K.In base → base.Ns mainGlobals mg → DFn (PySem.Challenge.rw_honestbars_k22_runs_counted).prog w K mg base 228 fa fd ["_law_script"] sp) : PySem.Challenge.rw_honestbars_k22_runs_counted.Holds := by
  w_on; o_law
  refine HandSHeadRun.head_any (r := OpenLaw.row PySem.Challenge.rw_honestbars_k22_runs_counted) (q := view (OpenLaw.row PySem.Challenge.rw_honestbars_k22_runs_counted).prog [32]) (H := K22.hk) (ob := K22.ob) (M := 8000) (loose := K22.loose) (d := HandSHeadRun.topDef (OpenLaw.row PySem.Challenge.rw_honestbars_k22_runs_counted).prog 32) (kwd := []) K22.ob_eq
    (by kernel_rfl) (fun s => by kernel_rfl) K22.run (by kernel_rfl) (by kernel_rfl) (by kernel_rfl) (by rfl) (by first | assumption | decide +kernel) (by decide +kernel) ⟨rfl, rfl, rfl, rfl, rfl, by decide +kernel⟩ ?hw ?hc
  case hw => w_witness2
  case hc =>
    refine Dl.d_walk (l := PySem.Challenge.rw_honestbars_k22_runs_counted) (n := 63) (k := 228) (x := "_law_script") rfl (by decide) (by kernel_rfl) ⟨rfl, by decide, by decide⟩ rfl ?F
    intro w mg fa h Y G hmg0
    obtain ⟨K, KX, c⟩ := Y
    have hmg : mg ("law" : PySem.Str) = some (.ref fa) := by
      have e : (HandSHeadRun.topDef (OpenLaw.row PySem.Challenge.rw_honestbars_k22_runs_counted).prog 32).name = ("law" : PySem.Str) := by kernel_rfl
      rw [← e]
      exact hmg0
    obtain ⟨fd, hb, hF⟩ := F w mg fa h K KX c G hmg
    exact ⟨K, fd, sp, KX, hb, hsp, hF⟩
end K22
namespace Dl
open PySem L2
@[simp] theorem ofString_inj {a b : String} : (Str.ofString a = Str.ofString b) ↔ a = b := by
  rw [Str.ofString_eq_toList, Str.ofString_eq_toList]
  constructor
  · intro h
    have h1 : (a.toList.map Char.toNat).toArray = (b.toList.map Char.toNat).toArray := by injection h
    have h2 : a.toList.map Char.toNat = b.toList.map Char.toNat := by injection h1
    have h3 : a.toList = b.toList := by
      refine List.map_inj_right (f := Char.toNat) ?_ |>.mp h2
      intro x y e
      exact Char.ext (UInt32.toNat_inj.mp e)
    exact String.toList_inj.mp h3
  · rintro rfl; rfl
def Grow (G G' : GH) : Prop := ∀ a o, G a = some o → G' a = some o
theorem Grow.refl (G : GH) : Grow G G := fun _ _ h => h
theorem Grow.trans {G G1 G2 : GH} (h : Grow G G1) (k : Grow G1 G2) : Grow G G2 := fun a o e => k a o (h a o e)
theorem Grow.upd {G : GH} {p : Addr} {o : DO} (h : G p = none) : Grow G (updG G p o) := fun a u e => by
  rw [updG_ne]; exact e
  rintro rfl; rw [h] at e; cases e
theorem Grow.upd2 {G G' : GH} {p : Addr} {o : DO} (h : G p = none) (k : Grow G G') : Grow G (updG G' p o) := fun a u e => by
  rw [updG_ne]; exact k a u e
  rintro rfl; rw [h] at e; cases e
theorem Grow.drop {G G' : GH} {p : Addr} (h : G p = none) (k : Grow G G') : Grow G (dropG G' p) := fun a u e => by
  rw [dropG_ne]; exact k a u e
  rintro rfl; rw [h] at e; cases e
def pSp (R : List D → D → Prop) : DSp := fun ds G Q _ => ∃ d, R ds d ∧ ∀ G', Grow G G' → Q d G'
theorem dWhile_of {c : DTT} {tb : DTS} {E : DEnds} {I : Nat → DSt → GH → Prop}
    (h : ∀ n ρ G, I n ρ G → ∀ K : DSt → GH → Prop, (∀ m, m + 1 = n → ∀ ρ' G', I m ρ' G' → K ρ' G') → c ρ G fun b G1 => if b = true then tb { E with nx := K, ct := K, bk := E.nx } ρ G1 else E.nx ρ G1) :
    ∀ n ρ G, I n ρ G → dWhile c tb E ρ G := by
  have key : ∀ n ρ G, I n ρ G → dWhileGo c tb (n + 1) E ρ G := by
    intro n
    induction n with
    | zero => intro ρ G i; unfold dWhileGo; exact h 0 ρ G i _ (fun m e => by omega)
    | succ n ih =>
      intro ρ G i
      unfold dWhileGo
      refine h _ ρ G i _ ?_
      intro m e ρ' G' j
      have e2 : m = n := by omega
      subst e2
      exact ih ρ' G' j
  exact fun n ρ G i => ⟨n + 1, key n ρ G i⟩
theorem dForGo_of {ok : GH → Prop} {g : DTG} {tb : DTS} {E : DEnds} {I : List D → DSt → GH → Prop}
    (h0 : ∀ ρ G, I [] ρ G → ok G ∧ E.nx ρ G)
    (h : ∀ x xs ρ G, I (x :: xs) ρ G → ∀ K : DSt → GH → Prop, (∀ ρ' G', I xs ρ' G' → K ρ' G') → ok G ∧ g x ρ G fun ρ2 G2 => tb { E with nx := K, ct := K, bk := E.nx } ρ2 G2) :
    ∀ items ρ G, I items ρ G → dForGo ok g tb items E ρ G := by
  intro items
  induction items with
  | nil => intro ρ G i; unfold dForGo; exact h0 ρ G i
  | cons x xs ih => intro ρ G i; unfold dForGo; exact h x xs ρ G i _ ih
theorem dLcGo_of {ok : GH → Prop} {ct : CT} {te : DTE} {ρ : DSt} {p : Addr} {Q : DK} {I : List D → List D → GH → Prop}
    (h0 : ∀ acc G, I [] acc G → ok G ∧ Q (.ref p) G)
    (h : ∀ x xs acc G, I (x :: xs) acc G → ok G ∧ ∃ ρ2, bindC ct x ρ = some ρ2 ∧ ∀ K : DK, (∀ y G4, G4 p = some (.lst acc) → acc.length < sizeLine → I xs (acc ++ [y]) (updG G4 p (.lst (acc ++ [y]))) → K y G4) → te ρ2 G K) :
    ∀ items acc G, I items acc G → dLcGo ok ct dYes te ρ p items G Q := by
  intro items
  induction items with
  | nil => intro acc G i; unfold dLcGo; exact h0 acc G i
  | cons x xs ih =>
    intro acc G i
    unfold dLcGo
    obtain ⟨a, ρ2, e, k⟩ := h x xs acc G i
    refine ⟨a, ?_⟩
    rw [e]
    simp only [dYes, if_true]
    refine k _ ?_
    intro y G4 e4 hl j
    rw [e4]
    exact ⟨hl, ih _ _ j⟩
def PureE (te : DTE) (ct : CT) (ρ : DSt) (x y : D) : Prop := ∃ ρ2, bindC ct x ρ = some ρ2 ∧ ∀ (G : GH) (K : DK), (∀ G', Grow G G' → K y G') → te ρ2 G K
mutual
def smD : D → Bool
  | .non => true
  | .bl _ => true
  | .int i => decide (i.natAbs < 10 ^ 12)
  | .str x => PyData.strOk x
  | .tup ds => smDs ds
  | .lst ds => smDs ds
  | _ => false
def smDs : List D → Bool
  | [] => true
  | d :: ds => smD d && smDs ds
end
mutual
def wtD : D → Nat
  | .str x => x.length
  | .int _ => 40
  | .tup ds => wtDs ds
  | .lst ds => wtDs ds
  | _ => 0
def wtDs : List D → Nat
  | [] => 0
  | d :: ds => wtD d + 1 + wtDs ds
end
mutual
theorem sm_pure : ∀ d : D, smD d = true → pureD d = true
  | .non, _ => by simp [pureD]
  | .bl _, _ => by simp [pureD]
  | .int _, _ => by simp [pureD]
  | .str x, h => by simpa [pureD, smD] using h
  | .tup ds, h => by simpa [pureD] using sms_pure ds (by simpa [smD] using h)
  | .lst ds, h => by simpa [pureD] using sms_pure ds (by simpa [smD] using h)
  | .byt _, h => by simp [smD] at h
  | .ref _, h => by simp [smD] at h
  | .scr _, h => by simp [smD] at h
  | .fn _ _ _ _, h => by simp [smD] at h
  | .exh _ _ _ _ _, h => by simp [smD] at h
theorem sms_pure : ∀ ds : List D, smDs ds = true → pureDs ds = true
  | [], _ => by simp [pureDs]
  | d :: ds, h => by
    simp only [smDs, Bool.and_eq_true] at h
    simp [pureDs, sm_pure d h.1, sms_pure ds h.2]
end
theorem log_small {i : Int} (h : i.natAbs < 10 ^ 12) : i.natAbs.log2 < 40 := by
  by_cases e : i.natAbs = 0
  · rw [e]; decide
  · exact (Nat.log2_lt e).mpr (Nat.lt_of_lt_of_le h (by decide))
mutual
theorem sm_few : ∀ d : D, smD d = true → fewD d = true
  | .non, _ => by simp [fewD]
  | .bl _, _ => by simp [fewD]
  | .int i, h => by
    simp only [smD, decide_eq_true_eq] at h
    have := log_small h
    simp only [fewD, decide_eq_true_eq]
    omega
  | .str x, h => by simp [fewD]
  | .tup ds, h => by simpa [fewD] using sms_few ds (by simpa [smD] using h)
  | .lst ds, h => by simpa [fewD] using sms_few ds (by simpa [smD] using h)
  | .byt _, h => by simp [smD] at h
  | .ref _, h => by simp [smD] at h
  | .scr _, h => by simp [smD] at h
  | .fn _ _ _ _, h => by simp [smD] at h
  | .exh _ _ _ _ _, h => by simp [smD] at h
theorem sms_few : ∀ ds : List D, smDs ds = true → fewDs ds = true
  | [], _ => by simp [fewDs]
  | d :: ds, h => by
    simp only [smDs, Bool.and_eq_true] at h
    simp [fewDs, sm_few d h.1, sms_few ds h.2]
end
mutual
theorem sm_short : ∀ d : D, smD d = true → (pyD d).intsShort 13 = true
  | .non, _ => by simp [pyD, PyData.intsShort]
  | .bl _, _ => by simp [pyD, PyData.intsShort]
  | .int i, h => by
    simp only [smD, decide_eq_true_eq] at h
    simp only [pyD, PyData.intsShort, decide_eq_true_eq]
    exact PyData.shown_int_le h
  | .str x, h => by simp [pyD, PyData.intsShort]
  | .tup ds, h => by simpa [pyD, PyData.intsShort] using sms_short ds (by simpa [smD] using h)
  | .lst ds, h => by simpa [pyD, PyData.intsShort] using sms_short ds (by simpa [smD] using h)
  | .byt _, h => by simp [smD] at h
  | .ref _, h => by simp [smD] at h
  | .scr _, h => by simp [smD] at h
  | .fn _ _ _ _, h => by simp [smD] at h
  | .exh _ _ _ _ _, h => by simp [smD] at h
theorem sms_short : ∀ ds : List D, smDs ds = true → PyData.intsShortAll 13 (pyDs ds) = true
  | [], _ => by simp [pyDs, PyData.intsShortAll]
  | d :: ds, h => by
    simp only [smDs, Bool.and_eq_true] at h
    simp [pyDs, PyData.intsShortAll, sm_short d h.1, sms_short ds h.2]
end
mutual
theorem sm_weight : ∀ d : D, smD d = true → (pyD d).weight ≤ wtD d
  | .non, _ => by simp [pyD, PyData.weight]
  | .bl _, _ => by simp [pyD, PyData.weight]
  | .int i, h => by
    simp only [smD, decide_eq_true_eq] at h
    have := log_small h
    simp only [pyD, PyData.weight, wtD]
    split <;> omega
  | .str x, h => by simp [pyD, PyData.weight, wtD, Str.length]
  | .tup ds, h => by simpa [pyD, PyData.weight, wtD] using sms_weight ds (by simpa [smD] using h)
  | .lst ds, h => by simpa [pyD, PyData.weight, wtD] using sms_weight ds (by simpa [smD] using h)
  | .byt _, h => by simp [smD] at h
  | .ref _, h => by simp [smD] at h
  | .scr _, h => by simp [smD] at h
  | .fn _ _ _ _, h => by simp [smD] at h
  | .exh _ _ _ _ _, h => by simp [smD] at h
theorem sms_weight : ∀ ds : List D, smDs ds = true → PyData.weightAll (pyDs ds) ≤ wtDs ds
  | [], _ => by simp [pyDs, PyData.weightAll]
  | d :: ds, h => by
    simp only [smDs, Bool.and_eq_true] at h
    have h1 := sm_weight d h.1
    have h2 := sms_weight ds h.2
    simp only [pyDs, PyData.weightAll, wtDs]
    omega
end
theorem okD_of {d : D} (h : smD d = true) (k : depD d ≤ 64) : okD d := ⟨sm_pure d h, k⟩
theorem shw_of {d : D} (hs : isSeqD d = true) (h : smD d = true) (k : depD d ≤ 64) (z : wtD d ≤ 2 ^ 20) : Shw d := by
  refine ⟨hs, okD_of h k, sm_few d h, ?_⟩
  have e := sm_weight d h
  have hl : PyData.layable0 (pyD d) = true := by
    unfold PyData.layable0
    rw [lay_py d (sm_pure d h), depth_py, decide_eq_true k, decide_eq_true (by omega)]
    rfl
  have := PyProof.Rows.shown_le13 hl (sm_short d h)
  unfold shD
  have e2 : sizeLine = 16777216 := by decide
  omega
theorem ixN_at {n j : Nat} (hj : j < n) : ixN n (j : Int) = some j := by
  unfold ixN
  rw [if_pos (Int.natCast_nonneg j), if_pos (by omega)]
  simp
theorem atI_nat {α : Type} {xs : List α} {i : Nat} {x : α} (h : xs[i]? = some x) : atI xs (i : Int) = some x := by
  have hl : i < xs.length := by
    rcases Nat.lt_or_ge i xs.length with q | q
    · exact q
    · rw [List.getElem?_eq_none q] at h; cases h
  unfold atI
  rw [ixN_at hl]
  exact h
@[simp] theorem atI_0 {α : Type} {x : α} {xs : List α} : atI (x :: xs) 0 = some x := atI_nat (i := 0) rfl
@[simp] theorem atI_1 {α : Type} {x y : α} {xs : List α} : atI (x :: y :: xs) 1 = some y := atI_nat (i := 1) rfl
@[simp] theorem atI_2 {α : Type} {x y z : α} {xs : List α} : atI (x :: y :: z :: xs) 2 = some z := atI_nat (i := 2) rfl
@[simp] theorem atI_3 {α : Type} {x y z u : α} {xs : List α} : atI (x :: y :: z :: u :: xs) 3 = some u := atI_nat (i := 3) rfl
@[simp] theorem atI_4 {α : Type} {x y z u v : α} {xs : List α} : atI (x :: y :: z :: u :: v :: xs) 4 = some v := atI_nat (i := 4) rfl
end Dl
namespace Dl
open PySem L2
inductive Wk where
  | tick (n : Int)
  | sme (a b : Int) (t : Bool)
  | lop (a b : Int) (t : Bool) (w : Wk)
  | eit (ws : List Wk)
  | row (ws : List Wk)
  | bes (a b : Wk)
mutual
def toD : Wk → D
  | .tick n => .tup [.str "tick", .int n]
  | .sme a b t => .tup [.str "some", .int a, .int b, .bl t]
  | .lop a b t w => .tup [.str "loop", .int a, .int b, .bl t, toD w]
  | .eit ws => .tup [.str "either", .tup (toDs ws)]
  | .row ws => .tup [.str "row", .tup (toDs ws)]
  | .bes a b => .tup [.str "beside", toD a, toD b]
def toDs : List Wk → List D
  | [] => []
  | w :: ws => toD w :: toDs ws
end
theorem toDs_map : ∀ ws : List Wk, toDs ws = ws.map toD
  | [] => by simp [toDs]
  | w :: ws => by simp [toDs, toDs_map ws]
@[simp] theorem toDs_len (ws : List Wk) : (toDs ws).length = ws.length := by rw [toDs_map]; simp
theorem toDs_app (a b : List Wk) : toDs (a ++ b) = toDs a ++ toDs b := by simp [toDs_map]
inductive Sg where
  | tick
  | more
  | fin
  | many (n : Int)
  | way (i : Nat)
  | left (s : Sg)
  | right (s : Sg)
def sgD : Sg → D
  | .tick => .str "tick"
  | .more => .str "more"
  | .fin => .str "end"
  | .many n => .tup [.str "many", .int n]
  | .way i => .tup [.str "way", .int (i : Nat)]
  | .left s => .tup [.str "left", sgD s]
  | .right s => .tup [.str "right", sgD s]
def isOver : Wk → Bool
  | .row [] => true
  | _ => false
def inRow : Wk → List Wk
  | .row us => us
  | x => [x]
def mkRow : List Wk → Wk
  | [w] => w
  | ws => .row ws
mutual
def tidyW : Wk → Wk
  | .bes a b => if isOver (tidyW a) && isOver (tidyW b) then .row [] else .bes (tidyW a) (tidyW b)
  | .row ws => mkRow (flatW ws)
  | w => w
def flatW : List Wk → List Wk
  | [] => []
  | w :: ws => inRow (tidyW w) ++ flatW ws
end
def manyS (a b : Int) : List Sg := (List.range (b + 1 - a).toNat).map fun i => Sg.many (a + (i : Nat))
mutual
def nxW : Wk → List Sg
  | .tick _ => [.tick]
  | .sme a b t => if t then manyS a b else (if 0 < b then [.tick] else []) ++ (if a = 0 then [.fin] else [])
  | .lop a b t _ => if t then manyS a b else (if 0 < b then [.more] else []) ++ (if a = 0 then [.fin] else [])
  | .eit ws => (List.range ws.length).map Sg.way
  | .row ws => nxWs ws
  | .bes a b => (nxW a).map .left ++ (nxW b).map .right
def nxWs : List Wk → List Sg
  | [] => []
  | w :: _ => nxW w
end
def tkW (n : Int) : Wk := if 0 < n then .tick n else .row []
def dec0 (a : Int) : Int := if a - 1 > 0 then a - 1 else 0
mutual
def behW : Wk → Sg → Wk
  | .tick n, _ => tkW (n - 1)
  | .sme _ _ true, .many n => tkW n
  | .sme a b false, .tick => .sme (dec0 a) (b - 1) false
  | .lop _ _ true w, .many n => .row (List.replicate n.toNat w)
  | .lop a b false w, .more => .row [w, .lop (dec0 a) (b - 1) false w]
  | .eit ws, .way i => ws.getD i (.row [])
  | .row ws, s => .row (behWs ws s)
  | .bes a b, .left s => .bes (behW a s) b
  | .bes a b, .right s => .bes a (behW b s)
  | _, _ => .row []
def behWs : List Wk → Sg → List Wk
  | [], _ => []
  | w :: ws, s => behW w s :: ws
end
mutual
def okW (B : Int) : Wk → Prop
  | .tick n => 1 ≤ n ∧ n ≤ B
  | .sme a b _ => 0 ≤ a ∧ a ≤ b ∧ b ≤ B
  | .lop a b _ w => 0 ≤ a ∧ a ≤ b ∧ b ≤ B ∧ okW B w
  | .eit ws => ws ≠ [] ∧ okWs B ws
  | .row ws => okWs B ws
  | .bes a b => okW B a ∧ okW B b
def okWs (B : Int) : List Wk → Prop
  | [] => True
  | w :: ws => okW B w ∧ okWs B ws
end
mutual
def zW : Wk → Nat
  | .tick _ => 2
  | .sme _ _ _ => 2
  | .lop _ b _ w => 2 + (b.toNat + 1) * (zW w + 1)
  | .eit ws => 1 + zWs ws
  | .row ws => 1 + zWs ws
  | .bes a b => 1 + zW a + zW b
def zWs : List Wk → Nat
  | [] => 0
  | w :: ws => zW w + zWs ws
end
mutual
def dpW : Wk → Nat
  | .tick _ => 1
  | .sme _ _ _ => 1
  | .lop _ _ _ w => 1 + dpW w
  | .eit ws => 2 + dpWs ws
  | .row ws => 2 + dpWs ws
  | .bes a b => 1 + max (dpW a) (dpW b)
def dpWs : List Wk → Nat
  | [] => 0
  | w :: ws => max (dpW w) (dpWs ws)
end
theorem okWs_iff {B : Int} : ∀ {ws : List Wk}, okWs B ws ↔ ∀ w ∈ ws, okW B w
  | [] => by simp [okWs]
  | w :: ws => by simp [okWs, okWs_iff (ws := ws)]
theorem zWs_app (a b : List Wk) : zWs (a ++ b) = zWs a + zWs b := by
  induction a with
  | nil => simp [zWs]
  | cons x xs ih => simp only [List.cons_append, zWs, ih]; omega
theorem zW_pos : ∀ w : Wk, 1 ≤ zW w := by
  intro w; cases w <;> simp only [zW] <;> omega
theorem len_zWs : ∀ ws : List Wk, ws.length ≤ zWs ws
  | [] => by simp [zWs]
  | w :: ws => by have := len_zWs ws; have := zW_pos w; simp only [zWs, List.length_cons]; omega
theorem zWs_mem : ∀ {ws : List Wk} {w : Wk}, w ∈ ws → zW w ≤ zWs ws
  | x :: xs, w, h => by
    rcases List.mem_cons.mp h with e | e
    · subst e; simp only [zWs]; omega
    · have := zWs_mem e; simp only [zWs]; omega
theorem dpWs_mem : ∀ {ws : List Wk} {w : Wk}, w ∈ ws → dpW w ≤ dpWs ws
  | x :: xs, w, h => by
    rcases List.mem_cons.mp h with e | e
    · subst e; simp only [dpWs]; omega
    · have := dpWs_mem e; simp only [dpWs]; omega
theorem dpWs_app (a b : List Wk) : dpWs (a ++ b) = max (dpWs a) (dpWs b) := by
  induction a with
  | nil => simp [dpWs]
  | cons x xs ih => simp only [List.cons_append, dpWs, ih]; omega
theorem mkRow_cases (ws : List Wk) : (∃ w, ws = [w] ∧ mkRow ws = w) ∨ mkRow ws = .row ws := by
  cases ws with
  | nil => exact .inr rfl
  | cons w ws => cases ws with
    | nil => exact .inl ⟨w, rfl, rfl⟩
    | cons => exact .inr rfl
theorem inRow_ok {B : Int} {w : Wk} (h : okW B w) : okWs B (inRow w) := by
  cases w <;> simp only [inRow, okWs] <;> first | exact ⟨h, trivial⟩ | (simpa [okW] using h)
theorem okWs_app {B : Int} {a b : List Wk} (h : okWs B a) (k : okWs B b) : okWs B (a ++ b) := by
  rw [okWs_iff] at *
  intro w hw
  rcases List.mem_append.mp hw with e | e
  · exact h w e
  · exact k w e
mutual
theorem tidy_ok {B : Int} : ∀ w : Wk, okW B w → okW B (tidyW w)
  | .tick _, h => by simpa [tidyW] using h
  | .sme _ _ _, h => by simpa [tidyW] using h
  | .lop _ _ _ _, h => by simpa [tidyW] using h
  | .eit _, h => by simpa [tidyW] using h
  | .row ws, h => by
    have k := flat_ok ws (by simpa [okW] using h)
    rcases mkRow_cases (flatW ws) with ⟨w, e, f⟩ | f
    · rw [tidyW, f]; rw [e] at k; exact k.1
    · rw [tidyW, f]; simpa [okW] using k
  | .bes a b, h => by
    rw [okW] at h
    have h1 := tidy_ok a h.1
    have h2 := tidy_ok b h.2
    rw [tidyW]
    split
    · simp [okW, okWs]
    · simp [okW, h1, h2]
theorem flat_ok {B : Int} : ∀ ws : List Wk, okWs B ws → okWs B (flatW ws)
  | [], _ => by simp [flatW, okWs]
  | w :: ws, h => by
    rw [okWs] at h
    rw [flatW]
    exact okWs_app (inRow_ok (tidy_ok w h.1)) (flat_ok ws h.2)
end
theorem inRow_z {w : Wk} : zWs (inRow w) ≤ zW w := by
  cases w <;> simp only [inRow, zWs, zW] <;> omega
mutual
theorem tidy_z : ∀ w : Wk, zW (tidyW w) ≤ zW w
  | .tick _ => by simp [tidyW]
  | .sme _ _ _ => by simp [tidyW]
  | .lop _ _ _ _ => by simp [tidyW]
  | .eit _ => by simp [tidyW]
  | .row ws => by
    have k := flat_z ws
    rcases mkRow_cases (flatW ws) with ⟨w, e, f⟩ | f
    · rw [tidyW, f]; rw [e] at k; simp only [zWs, zW] at k ⊢; omega
    · rw [tidyW, f]; simp only [zW]; omega
  | .bes a b => by
    have h1 := tidy_z a
    have h2 := tidy_z b
    rw [tidyW]
    split
    · simp only [zW, zWs]; omega
    · simp only [zW]; omega
theorem flat_z : ∀ ws : List Wk, zWs (flatW ws) ≤ zWs ws
  | [] => by simp [flatW]
  | w :: ws => by
    have h1 := tidy_z w
    have h2 := flat_z ws
    have h3 := inRow_z (w := tidyW w)
    rw [flatW, zWs_app, zWs]
    omega
end
theorem inRow_dp {w : Wk} : dpWs (inRow w) ≤ dpW w := by
  cases w <;> simp only [inRow, dpWs, dpW] <;> omega
mutual
theorem tidy_dp : ∀ w : Wk, dpW (tidyW w) ≤ dpW w
  | .tick _ => by simp [tidyW]
  | .sme _ _ _ => by simp [tidyW]
  | .lop _ _ _ _ => by simp [tidyW]
  | .eit _ => by simp [tidyW]
  | .row ws => by
    have k := flat_dp ws
    rcases mkRow_cases (flatW ws) with ⟨w, e, f⟩ | f
    · rw [tidyW, f]; rw [e] at k; simp only [dpWs, dpW] at k ⊢; omega
    · rw [tidyW, f]; simp only [dpW]; omega
  | .bes a b => by
    have h1 := tidy_dp a
    have h2 := tidy_dp b
    have h3 : 1 ≤ dpW a := by cases a <;> simp only [dpW] <;> omega
    rw [tidyW]
    split
    · simp only [dpW, dpWs]; omega
    · simp only [dpW]; omega
theorem flat_dp : ∀ ws : List Wk, dpWs (flatW ws) ≤ dpWs ws
  | [] => by simp [flatW]
  | w :: ws => by
    have h1 := tidy_dp w
    have h2 := flat_dp ws
    have h3 := inRow_dp (w := tidyW w)
    rw [flatW, dpWs_app, dpWs]
    omega
end
mutual
def pW : Wk → Nat
  | .tick _ => 3
  | .sme _ _ _ => 3
  | .lop _ _ _ w => 3 + max (dpW w) (pW w)
  | .eit ws => 4 + max (dpWs ws) (pWs ws)
  | .row ws => pWs ws
  | .bes a b => 3 + max (pW a) (pW b)
def pWs : List Wk → Nat
  | [] => 2
  | w :: ws => max (pW w) (pWs ws)
end
theorem two_pWs : ∀ ws : List Wk, 2 ≤ pWs ws
  | [] => by simp [pWs]
  | w :: ws => by have := two_pWs ws; simp only [pWs]; omega
theorem two_pW : ∀ w : Wk, 2 ≤ pW w := by
  intro w; cases w <;> simp only [pW] <;> first | omega | exact two_pWs _
theorem pWs_app (a b : List Wk) : pWs (a ++ b) = max (pWs a) (pWs b) := by
  induction a with
  | nil => have := two_pWs b; simp only [List.nil_append, pWs]; omega
  | cons x xs ih => simp only [List.cons_append, pWs, ih]; omega
theorem inRow_p {w : Wk} : pWs (inRow w) ≤ pW w := by
  have := two_pW w
  cases w <;> simp only [inRow, pWs, pW] at * <;> omega
mutual
theorem tidy_p : ∀ w : Wk, pW (tidyW w) ≤ pW w
  | .tick _ => by simp [tidyW]
  | .sme _ _ _ => by simp [tidyW]
  | .lop _ _ _ _ => by simp [tidyW]
  | .eit _ => by simp [tidyW]
  | .row ws => by
    have k := flat_p ws
    rcases mkRow_cases (flatW ws) with ⟨w, e, f⟩ | f
    · rw [tidyW, f]; rw [e] at k; simp only [pWs, pW] at k ⊢; omega
    · rw [tidyW, f]; simp only [pW]; omega
  | .bes a b => by
    have h1 := tidy_p a
    have h2 := tidy_p b
    rw [tidyW]
    split
    · simp only [pW, pWs]; omega
    · simp only [pW]; omega
theorem flat_p : ∀ ws : List Wk, pWs (flatW ws) ≤ pWs ws
  | [] => by simp [flatW]
  | w :: ws => by
    have h1 := tidy_p w
    have h2 := flat_p ws
    have h3 := inRow_p (w := tidyW w)
    rw [flatW, pWs_app, pWs]
    omega
end
mutual
theorem tidy_dp_p : ∀ w : Wk, dpW (tidyW w) ≤ pW w ∧ 2 + dpWs (inRow (tidyW w)) ≤ pW w
  | .tick _ => by simp [tidyW, inRow, dpWs, dpW, pW]
  | .sme _ _ _ => by simp [tidyW, inRow, dpWs, dpW, pW]
  | .lop _ _ _ _ => by simp only [tidyW, inRow, dpWs, dpW, pW]; omega
  | .eit _ => by simp only [tidyW, inRow, dpWs, dpW, pW]; omega
  | .row ws => by
    have k := flat_dp_p ws
    rcases mkRow_cases (flatW ws) with ⟨w, e, f⟩ | f
    · rw [tidyW, f]
      rw [e] at k
      have := inRow_dp (w := w)
      simp only [dpWs, dpW, pW] at k ⊢
      omega
    · rw [tidyW, f]; simp only [dpW, pW, inRow]; omega
  | .bes a b => by
    have h1 := tidy_dp_p a
    have h2 := tidy_dp_p b
    rw [tidyW]
    split
    · simp only [dpW, dpWs, pW, inRow]; omega
    · simp only [dpW, pW, inRow, dpWs]; omega
theorem flat_dp_p : ∀ ws : List Wk, 2 + dpWs (flatW ws) ≤ pWs ws
  | [] => by simp [flatW, dpWs, pWs]
  | w :: ws => by
    have h1 := tidy_dp_p w
    have h2 := flat_dp_p ws
    rw [flatW, dpWs_app, pWs]
    omega
end
theorem manyS_mem {a b : Int} {s : Sg} (h : s ∈ manyS a b) : ∃ n : Int, s = .many n ∧ a ≤ n ∧ n ≤ b := by
  unfold manyS at h
  obtain ⟨i, hi, rfl⟩ := List.mem_map.mp h
  rw [List.mem_range] at hi
  exact ⟨_, rfl, by omega, by omega⟩
theorem zWs_rep (n : Nat) (w : Wk) : zWs (List.replicate n w) = n * zW w := by
  induction n with
  | zero => simp [zWs]
  | succ n ih => rw [List.replicate_succ, zWs, ih, Nat.succ_mul]; omega
theorem okWs_rep {B : Int} (n : Nat) {w : Wk} (h : okW B w) : okWs B (List.replicate n w) := by
  rw [okWs_iff]; intro x hx; rw [List.eq_of_mem_replicate hx]; exact h
theorem dpWs_rep (n : Nat) (w : Wk) : dpWs (List.replicate n w) ≤ dpW w := by
  induction n with
  | zero => simp [dpWs]
  | succ n ih => rw [List.replicate_succ, dpWs]; omega
theorem pWs_rep (n : Nat) (w : Wk) : pWs (List.replicate n w) ≤ pW w := by
  induction n with
  | zero => simpa [pWs] using two_pW w
  | succ n ih => rw [List.replicate_succ, pWs]; omega
theorem pWs_mem : ∀ {ws : List Wk} {w : Wk}, w ∈ ws → pW w ≤ pWs ws
  | x :: xs, w, h => by
    rcases List.mem_cons.mp h with e | e
    · subst e; simp only [pWs]; omega
    · have := pWs_mem e; simp only [pWs]; omega
structure Bh (B : Int) (w v : Wk) : Prop where
  ok : okW B v
  z : zW v ≤ zW w
  dp : dpW v ≤ dpW w + 2
  p : pW v ≤ pW w
theorem bh_over {B : Int} {w : Wk} : Bh B w (.row []) := by
  refine ⟨by simp [okW, okWs], ?_, ?_, ?_⟩
  · have := zW_pos w; simp only [zW, zWs]; omega
  · have h3 : 1 ≤ dpW w := by cases w <;> simp only [dpW] <;> omega
    simp only [dpW, dpWs]; omega
  · have := two_pW w; simp only [pW, pWs]; omega
theorem bh_tk {B : Int} {w : Wk} {n : Int} (hn : n ≤ B) (h2 : 2 ≤ zW w) (h3 : 3 ≤ pW w) (hd : 1 ≤ dpW w) : Bh B w (tkW n) := by
  unfold tkW
  split
  · exact ⟨by rw [okW]; omega, by rw [zW]; omega, by rw [dpW]; omega, by rw [pW]; omega⟩
  · exact bh_over
mutual
theorem beh_ok {B : Int} : ∀ (w : Wk) (s : Sg), okW B w → s ∈ nxW w → Bh B w (behW w s)
  | .tick n, s, h, hs => by
    rw [okW] at h
    rw [show behW (.tick n) s = tkW (n - 1) from by simp [behW]]
    exact bh_tk (by omega) (by simp [zW]) (by simp [pW]) (by simp [dpW])
  | .sme a b true, s, h, hs => by
    rw [okW] at h
    rw [nxW, if_pos rfl] at hs
    obtain ⟨n, rfl, h1, h2⟩ := manyS_mem hs
    rw [show behW (.sme a b true) (.many n) = tkW n from by simp [behW]]
    exact bh_tk (by omega) (by simp [zW]) (by simp [pW]) (by simp [dpW])
  | .sme a b false, s, h, hs => by
    rw [okW] at h
    rw [nxW, if_neg (by decide)] at hs
    rcases List.mem_append.mp hs with q | q
    · split at q
      · rw [List.mem_singleton] at q; subst q
        rw [show behW (.sme a b false) .tick = .sme (dec0 a) (b - 1) false from by simp [behW]]
        refine ⟨?_, by simp [zW], by simp [dpW], by simp [pW]⟩
        rw [okW]; unfold dec0; split <;> omega
      · cases q
    · split at q
      · rw [List.mem_singleton] at q; subst q
        rw [show behW (.sme a b false) .fin = .row [] from by simp [behW]]
        exact bh_over
      · cases q
  | .lop a b true w, s, h, hs => by
    rw [okW] at h
    rw [nxW, if_pos rfl] at hs
    obtain ⟨n, rfl, h1, h2⟩ := manyS_mem hs
    rw [show behW (.lop a b true w) (.many n) = .row (List.replicate n.toNat w) from by simp [behW]]
    refine ⟨by rw [okW]; exact okWs_rep _ h.2.2.2, ?_, ?_, ?_⟩
    · rw [zW, zW, zWs_rep]
      have : n.toNat * zW w ≤ (b.toNat + 1) * (zW w + 1) := Nat.mul_le_mul (by omega) (by omega)
      omega
    · have := dpWs_rep n.toNat w
      rw [dpW, dpW]; omega
    · have := pWs_rep n.toNat w
      rw [pW, pW]; omega
  | .lop a b false w, s, h, hs => by
    rw [okW] at h
    rw [nxW, if_neg (by decide)] at hs
    rcases List.mem_append.mp hs with q | q
    · split at q
      · rename_i hb
        rw [List.mem_singleton] at q; subst q
        rw [show behW (.lop a b false w) .more = .row [w, .lop (dec0 a) (b - 1) false w] from by simp [behW]]
        refine ⟨?_, ?_, ?_, ?_⟩
        · simp only [okW, okWs]; unfold dec0; refine ⟨h.2.2.2, ⟨?_, ?_, ?_, h.2.2.2⟩, trivial⟩ <;> (try split) <;> omega
        · obtain ⟨m, hm⟩ : ∃ m, b.toNat = m + 1 := ⟨b.toNat - 1, by omega⟩
          have hm2 : (b - 1).toNat = m := by omega
          simp only [zW, zWs, hm, hm2, Nat.add_mul, Nat.mul_add]; omega
        · simp only [dpW, dpWs]; omega
        · have := two_pW w; simp only [pW, pWs]; omega
      · cases q
    · split at q
      · rw [List.mem_singleton] at q; subst q
        rw [show behW (.lop a b false w) .fin = .row [] from by simp [behW]]
        exact bh_over
      · cases q
  | .eit ws, s, h, hs => by
    rw [okW] at h
    rw [nxW] at hs
    obtain ⟨i, hi, rfl⟩ := List.mem_map.mp hs
    rw [List.mem_range] at hi
    have e : ws.getD i (.row []) = ws[i] := by simp [List.getD, hi]
    rw [show behW (.eit ws) (.way i) = ws.getD i (.row []) from by simp [behW], e]
    have m : ws[i] ∈ ws := List.getElem_mem hi
    have h1 := zWs_mem m
    have h2 := dpWs_mem m
    have h3 := pWs_mem m
    exact ⟨okWs_iff.mp h.2 _ m, by rw [zW]; omega, by rw [dpW]; omega, by rw [pW]; omega⟩
  | .row ws, s, h, hs => by
    rw [okW] at h
    rw [nxW] at hs
    rw [show behW (.row ws) s = .row (behWs ws s) from by simp [behW]]
    obtain ⟨h1, h2, h3, h4⟩ := behs_ok ws s h hs
    exact ⟨by rw [okW]; exact h1, by rw [zW, zW]; omega, by rw [dpW, dpW]; omega, by rw [pW, pW]; omega⟩
  | .bes a b, s, h, hs => by
    rw [okW] at h
    rw [nxW] at hs
    rcases List.mem_append.mp hs with q | q
    · obtain ⟨t, ht, rfl⟩ := List.mem_map.mp q
      obtain ⟨h1, h2, h3, h4⟩ := beh_ok a t h.1 ht
      rw [show behW (.bes a b) (.left t) = .bes (behW a t) b from by simp [behW]]
      exact ⟨by rw [okW]; exact ⟨h1, h.2⟩, by rw [zW, zW]; omega, by rw [dpW, dpW]; omega, by rw [pW, pW]; omega⟩
    · obtain ⟨t, ht, rfl⟩ := List.mem_map.mp q
      obtain ⟨h1, h2, h3, h4⟩ := beh_ok b t h.2 ht
      rw [show behW (.bes a b) (.right t) = .bes a (behW b t) from by simp [behW]]
      exact ⟨by rw [okW]; exact ⟨h.1, h1⟩, by rw [zW, zW]; omega, by rw [dpW, dpW]; omega, by rw [pW, pW]; omega⟩
theorem behs_ok {B : Int} : ∀ (ws : List Wk) (s : Sg), okWs B ws → s ∈ nxWs ws → okWs B (behWs ws s) ∧ zWs (behWs ws s) ≤ zWs ws ∧ dpWs (behWs ws s) ≤ dpWs ws + 2 ∧ pWs (behWs ws s) ≤ pWs ws
  | [], s, h, hs => by simp [nxWs] at hs
  | w :: ws, s, h, hs => by
    rw [okWs] at h
    rw [nxWs] at hs
    obtain ⟨h1, h2, h3, h4⟩ := beh_ok w s h.1 hs
    rw [show behWs (w :: ws) s = behW w s :: ws from by simp [behWs]]
    refine ⟨by rw [okWs]; exact ⟨h1, h.2⟩, by rw [zWs, zWs]; omega, by rw [dpWs, dpWs]; omega, by rw [pWs, pWs]; omega⟩
end
end Dl
namespace Dl
open PySem L2
theorem smDs_iff : ∀ {ds : List D}, smDs ds = true ↔ ∀ d ∈ ds, smD d = true
  | [] => by simp [smDs]
  | d :: ds => by simp [smDs, smDs_iff (ds := ds)]
theorem depDs_le : ∀ {ds : List D} {n : Nat}, (∀ d ∈ ds, depD d ≤ n) → depDs ds ≤ n
  | [], n, _ => by simp [depDs]
  | d :: ds, n, h => by
    have h1 := h d (List.mem_cons_self ..)
    have h2 := depDs_le fun x hx => h x (List.mem_cons_of_mem _ hx)
    rw [depDs]; omega
theorem wtDs_le : ∀ {ds : List D} {n : Nat}, (∀ d ∈ ds, wtD d ≤ n) → wtDs ds ≤ ds.length * (n + 1)
  | [], n, _ => by simp [wtDs]
  | d :: ds, n, h => by
    have h1 := h d (List.mem_cons_self ..)
    have h2 := wtDs_le fun x hx => h x (List.mem_cons_of_mem _ hx)
    rw [wtDs, List.length_cons, Nat.succ_mul]; omega
theorem so_tick : PyData.strOk "tick" = true := by decide +kernel
theorem so_some : PyData.strOk "some" = true := by decide +kernel
theorem so_loop : PyData.strOk "loop" = true := by decide +kernel
theorem so_either : PyData.strOk "either" = true := by decide +kernel
theorem so_row : PyData.strOk "row" = true := by decide +kernel
theorem so_beside : PyData.strOk "beside" = true := by decide +kernel
theorem so_more : PyData.strOk "more" = true := by decide +kernel
theorem so_end : PyData.strOk "end" = true := by decide +kernel
theorem so_many : PyData.strOk "many" = true := by decide +kernel
theorem so_way : PyData.strOk "way" = true := by decide +kernel
theorem so_left : PyData.strOk "left" = true := by decide +kernel
theorem so_right : PyData.strOk "right" = true := by decide +kernel
theorem sl_tick : Str.length "tick" = 4 := by decide +kernel
theorem sl_some : Str.length "some" = 4 := by decide +kernel
theorem sl_loop : Str.length "loop" = 4 := by decide +kernel
theorem sl_either : Str.length "either" = 6 := by decide +kernel
theorem sl_row : Str.length "row" = 3 := by decide +kernel
theorem sl_beside : Str.length "beside" = 6 := by decide +kernel
theorem sl_more : Str.length "more" = 4 := by decide +kernel
theorem sl_end : Str.length "end" = 3 := by decide +kernel
theorem sl_many : Str.length "many" = 4 := by decide +kernel
theorem sl_way : Str.length "way" = 3 := by decide +kernel
theorem sl_left : Str.length "left" = 4 := by decide +kernel
theorem sl_right : Str.length "right" = 5 := by decide +kernel
theorem small12 {B n : Int} (hB : B ≤ 999) (h : 0 ≤ n) (k : n ≤ B) : decide (n.natAbs < 10 ^ 12) = true := by
  rw [decide_eq_true_eq]
  have e : (10 : Nat) ^ 12 = 1000000000000 := by decide
  omega
mutual
theorem sm_toD {B : Int} (hB : B ≤ 999) : ∀ w : Wk, okW B w → smD (toD w) = true
  | .tick n, h => by
    rw [okW] at h
    simp only [toD, smD, smDs, so_tick, small12 hB (show 0 ≤ n by omega) h.2, Bool.and_true]
  | .sme a b t, h => by
    rw [okW] at h
    simp only [toD, smD, smDs, so_some, small12 hB h.1 (show a ≤ B by omega), small12 hB (show 0 ≤ b by omega) h.2.2, Bool.and_true]
  | .lop a b t w, h => by
    rw [okW] at h
    simp only [toD, smD, smDs, so_loop, small12 hB h.1 (show a ≤ B by omega), small12 hB (show 0 ≤ b by omega) h.2.2.1, sm_toD hB w h.2.2.2, Bool.and_true]
  | .eit ws, h => by
    rw [okW] at h
    simp only [toD, smD, smDs, so_either, sm_toDs hB ws h.2, Bool.and_true]
  | .row ws, h => by
    rw [okW] at h
    simp only [toD, smD, smDs, so_row, sm_toDs hB ws h, Bool.and_true]
  | .bes a b, h => by
    rw [okW] at h
    simp only [toD, smD, smDs, so_beside, sm_toD hB a h.1, sm_toD hB b h.2, Bool.and_true]
theorem sm_toDs {B : Int} (hB : B ≤ 999) : ∀ ws : List Wk, okWs B ws → smDs (toDs ws) = true
  | [], _ => by simp [toDs, smDs]
  | w :: ws, h => by
    rw [okWs] at h
    simp only [toDs, smDs, sm_toD hB w h.1, sm_toDs hB ws h.2, Bool.and_true]
end
mutual
theorem dep_toD : ∀ w : Wk, depD (toD w) = dpW w
  | .tick n => by simp [toD, depD, depDs, dpW]
  | .sme a b t => by simp [toD, depD, depDs, dpW]
  | .lop a b t w => by simp [toD, depD, depDs, dpW, dep_toD w]; omega
  | .eit ws => by simp [toD, depD, depDs, dpW, dep_toDs ws]; omega
  | .row ws => by simp [toD, depD, depDs, dpW, dep_toDs ws]; omega
  | .bes a b => by simp [toD, depD, depDs, dpW, dep_toD a, dep_toD b]; omega
theorem dep_toDs : ∀ ws : List Wk, depDs (toDs ws) = dpWs ws
  | [] => by simp [toDs, depDs, dpWs]
  | w :: ws => by simp [toDs, depDs, dpWs, dep_toD w, dep_toDs ws]
end
mutual
theorem wt_toD : ∀ w : Wk, wtD (toD w) + 1 ≤ 60 * zW w
  | .tick n => by simp [toD, wtD, wtDs, zW, sl_tick]
  | .sme a b t => by simp [toD, wtD, wtDs, zW, sl_some]
  | .lop a b t w => by
    have h := wt_toD w
    simp only [toD, wtD, wtDs, zW, sl_loop]
    have : 1 * (zW w + 1) ≤ (b.toNat + 1) * (zW w + 1) := Nat.mul_le_mul (by omega) (by omega)
    omega
  | .eit ws => by have h := wt_toDs ws; simp only [toD, wtD, wtDs, zW, sl_either]; omega
  | .row ws => by have h := wt_toDs ws; simp only [toD, wtD, wtDs, zW, sl_row]; omega
  | .bes a b => by have h1 := wt_toD a; have h2 := wt_toD b; simp only [toD, wtD, wtDs, zW, sl_beside]; omega
theorem wt_toDs : ∀ ws : List Wk, wtDs (toDs ws) ≤ 60 * zWs ws
  | [] => by simp [toDs, wtDs]
  | w :: ws => by
    have h1 := wt_toD w
    have h2 := wt_toDs ws
    simp only [toDs, wtDs, zWs]; omega
end
structure SgOk (s : Sg) (n : Nat) : Prop where
  sm : smD (sgD s) = true
  dp : depD (sgD s) ≤ n + 1
  wt : wtD (sgD s) ≤ 46 + 7 * n
theorem SgOk.up {s : Sg} {m n : Nat} (h : SgOk s m) (k : m ≤ n) : SgOk s n := ⟨h.sm, by have := h.dp; omega, by have := h.wt; omega⟩
theorem sg_word {s : Sg} (h : s = .tick ∨ s = .more ∨ s = .fin) (n : Nat) : SgOk s n := by
  rcases h with rfl | rfl | rfl
  · exact ⟨by simp [sgD, smD, so_tick], by simp [sgD, depD], by simp [sgD, wtD, sl_tick]; omega⟩
  · exact ⟨by simp [sgD, smD, so_more], by simp [sgD, depD], by simp [sgD, wtD, sl_more]; omega⟩
  · exact ⟨by simp [sgD, smD, so_end], by simp [sgD, depD], by simp [sgD, wtD, sl_end]; omega⟩
theorem sg_many {B : Int} (hB : B ≤ 999) {a b : Int} (h0 : 0 ≤ a) (hb : b ≤ B) {s : Sg} (h : s ∈ manyS a b) (n : Nat) : SgOk s n := by
  obtain ⟨k, rfl, h1, h2⟩ := manyS_mem h
  exact ⟨by simp only [sgD, smD, smDs, so_many, small12 hB (show 0 ≤ k by omega) (show k ≤ B by omega), Bool.and_true], by simp [sgD, depD, depDs], by simp only [sgD, wtD, wtDs, sl_many]; omega⟩
mutual
theorem nx_ok {B : Int} (hB : B ≤ 999) : ∀ (w : Wk), okW B w → zW w ≤ 100000 → ∀ s ∈ nxW w, SgOk s (dpW w)
  | .tick n, h, hz, s, hs => by rw [nxW, List.mem_singleton] at hs; exact sg_word (.inl hs) _
  | .sme a b t, h, hz, s, hs => by
    rw [okW] at h
    rw [nxW] at hs
    split at hs
    · exact sg_many hB h.1 h.2.2 hs _
    · rcases List.mem_append.mp hs with q | q
      · split at q
        · rw [List.mem_singleton] at q; exact sg_word (.inl q) _
        · cases q
      · split at q
        · rw [List.mem_singleton] at q; exact sg_word (.inr (.inr q)) _
        · cases q
  | .lop a b t w, h, hz, s, hs => by
    rw [okW] at h
    rw [nxW] at hs
    split at hs
    · exact sg_many hB h.1 h.2.2.1 hs _
    · rcases List.mem_append.mp hs with q | q
      · split at q
        · rw [List.mem_singleton] at q; exact sg_word (.inr (.inl q)) _
        · cases q
      · split at q
        · rw [List.mem_singleton] at q; exact sg_word (.inr (.inr q)) _
        · cases q
  | .eit ws, h, hz, s, hs => by
    rw [nxW] at hs
    obtain ⟨i, hi, rfl⟩ := List.mem_map.mp hs
    rw [List.mem_range] at hi
    have hl := len_zWs ws
    rw [zW] at hz
    have e : decide (((i : Nat) : Int).natAbs < 10 ^ 12) = true := by
      rw [decide_eq_true_eq]
      have e : (10 : Nat) ^ 12 = 1000000000000 := by decide
      omega
    refine ⟨by simp only [sgD, smD, smDs, so_way, e, Bool.and_true], by simp [sgD, depD, depDs], by simp only [sgD, wtD, wtDs, sl_way]; omega⟩
  | .row ws, h, hz, s, hs => by
    rw [okW] at h
    rw [nxW] at hs
    rw [zW] at hz
    rw [dpW]
    exact (nxs_ok hB ws h (by omega) s hs).up (by omega)
  | .bes a b, h, hz, s, hs => by
    rw [okW] at h
    rw [nxW] at hs
    rw [zW] at hz
    rcases List.mem_append.mp hs with q | q
    · obtain ⟨t, ht, rfl⟩ := List.mem_map.mp q
      obtain ⟨h1, h2, h3⟩ := nx_ok hB a h.1 (by omega) t ht
      refine ⟨by simp only [sgD, smD, smDs, so_left, h1, Bool.and_true], by simp only [sgD, depD, depDs, dpW]; omega, by simp only [sgD, wtD, wtDs, sl_left, dpW]; omega⟩
    · obtain ⟨t, ht, rfl⟩ := List.mem_map.mp q
      obtain ⟨h1, h2, h3⟩ := nx_ok hB b h.2 (by omega) t ht
      refine ⟨by simp only [sgD, smD, smDs, so_right, h1, Bool.and_true], by simp only [sgD, depD, depDs, dpW]; omega, by simp only [sgD, wtD, wtDs, sl_right, dpW]; omega⟩
theorem nxs_ok {B : Int} (hB : B ≤ 999) : ∀ (ws : List Wk), okWs B ws → zWs ws ≤ 100000 → ∀ s ∈ nxWs ws, SgOk s (dpWs ws)
  | [], h, hz, s, hs => by simp [nxWs] at hs
  | w :: ws, h, hz, s, hs => by
    rw [okWs] at h
    rw [nxWs] at hs
    rw [zWs] at hz
    rw [dpWs]
    exact (nx_ok hB w h.1 (by omega) s hs).up (by omega)
end
theorem manyS_len {B a b : Int} (h0 : 0 ≤ a) (hb : b ≤ B) : (manyS a b).length ≤ (B + 1).toNat := by
  unfold manyS; rw [List.length_map, List.length_range]; omega
mutual
theorem nx_len {B : Int} (hB : 1 ≤ B) : ∀ (w : Wk), okW B w → 2 * (nxW w).length ≤ (B + 1).toNat * zW w
  | .tick n, h => by
    rw [nxW, zW]; simp only [List.length_singleton]; omega
  | .sme a b t, h => by
    rw [okW] at h
    rw [nxW, zW]
    split
    · have := manyS_len (B := B) h.1 h.2.2; omega
    · have : ((if 0 < b then [Sg.tick] else []) ++ (if a = 0 then [Sg.fin] else [])).length ≤ 2 := by split <;> split <;> simp
      have h2 : 2 ≤ (B + 1).toNat := by omega
      omega
  | .lop a b t w, h => by
    rw [okW] at h
    rw [nxW, zW]
    have h4 : (B + 1).toNat * 2 ≤ (B + 1).toNat * (2 + (b.toNat + 1) * (zW w + 1)) := Nat.mul_le_mul_left _ (by omega)
    split
    · have := manyS_len (B := B) h.1 h.2.2.1; omega
    · have : ((if 0 < b then [Sg.more] else []) ++ (if a = 0 then [Sg.fin] else [])).length ≤ 2 := by split <;> split <;> simp
      have h2 : 2 ≤ (B + 1).toNat := by omega
      omega
  | .eit ws, h => by
    rw [nxW, zW, List.length_map, List.length_range]
    have hl := len_zWs ws
    have : 2 * (1 + zWs ws) ≤ (B + 1).toNat * (1 + zWs ws) := Nat.mul_le_mul_right _ (by omega)
    omega
  | .row ws, h => by
    rw [okW] at h
    rw [nxW, zW]
    have := nxs_len hB ws h
    have : (B + 1).toNat * zWs ws ≤ (B + 1).toNat * (1 + zWs ws) := Nat.mul_le_mul_left _ (by omega)
    omega
  | .bes a b, h => by
    rw [okW] at h
    rw [nxW, zW, List.length_append, List.length_map, List.length_map]
    have h1 := nx_len hB a h.1
    have h2 := nx_len hB b h.2
    rw [Nat.mul_add, Nat.mul_add, Nat.mul_add]
    omega
theorem nxs_len {B : Int} (hB : 1 ≤ B) : ∀ (ws : List Wk), okWs B ws → 2 * (nxWs ws).length ≤ (B + 1).toNat * zWs ws
  | [], h => by simp [nxWs]
  | w :: ws, h => by
    rw [okWs] at h
    rw [nxWs, zWs, Nat.mul_add]
    have := nx_len hB w h.1
    omega
end
theorem eqv_over {w : Wk} : eqvD (toD w) (.tup [.str "row", .tup []]) = isOver w := by
  cases w with
  | row ws => cases ws <;> simp [toD, toDs, eqvD, eqvDs, isOver]
  | _ => simp [toD, eqvD, eqvDs, isOver]
end Dl
namespace Dl
open PySem L2
section
variable {t u : DTS} {E : DEnds} {ρ : DSt} {G : GH} {Q : DK} {c : DTT} {te ta tb : DTE} {tl tr : DTA}
theorem iSeq (h : t { E with nx := u E } ρ G) : dSeq t u E ρ G := h
theorem iNext (h : E.nx ρ G) : dNext E ρ G := h
theorem iIfS (h : c ρ G fun b G1 => if b = true then t E ρ G1 else u E ρ G1) : dIfS c t u E ρ G := h
theorem iRet (h : te ρ G E.rt) : dRet te E ρ G := h
theorem iDrop (h : te ρ G fun _ G1 => E.nx ρ G1) : dDrop te E ρ G := h
theorem iAsg {g : DTG} (h : te ρ G fun x G1 => g x ρ G1 E.nx) : dAsg te g E ρ G := h
theorem iPar {i j : Nat} (h : tl ρ G fun ds G1 => match ds with
  | [v, w] => E.nx ((ρ.set i (some v)).set j (some w)) G1
  | _ => False) : dPar i j tl E ρ G := h
theorem iGNm {i : Nat} {d : D} {Qg : DSt → GH → Prop} (h : Qg (ρ.set i (some d)) G) : gNm i d ρ G Qg := h
theorem iGTp {n : Nat} {t : DTGs} {ds : List D} {Qg : DSt → GH → Prop} (e : ds.length = n) (h : t ds ρ G Qg) : gTp n t (.tup ds) ρ G Qg := ⟨e, h⟩
theorem iGsCons {t : DTG} {u : DTGs} {d : D} {ds : List D} {Qg : DSt → GH → Prop} (h : t d ρ G fun ρ1 G1 => u ds ρ1 G1 Qg) : gsCons t u (d :: ds) ρ G Qg := h
theorem iGsNil {Qg : DSt → GH → Prop} (h : Qg ρ G) : gsNil [] ρ G Qg := h
theorem iGSb {to ti : DTE} {st : DSet} {d : D} {Qg : DSt → GH → Prop} (h : to ρ G fun o G1 => ti ρ G1 fun i G2 => st o i d G2 fun G3 => Qg ρ G3) : gSb to ti st d ρ G Qg := h
theorem iVar {i : Nat} {d : D} (e : sl ρ i = some d) (h : Q d G) : dVar i ρ G Q := by unfold dVar; rw [e]; exact h
theorem iC {d : D} (h : Q d G) : dC d ρ G Q := h
theorem iNil {Ql : List D → GH → Prop} (h : Ql [] G) : dNil ρ G Ql := h
theorem iCons {Ql : List D → GH → Prop} (h : ta ρ G fun x G1 => tr ρ G1 fun xs G2 => Ql (x :: xs) G2) : dCons ta tr ρ G Ql := h
theorem iTup (h : tl ρ G fun xs G1 => xs.length ≤ sizeLine ∧ Q (.tup xs) G1) : dTup tl ρ G Q := h
theorem iLst (h : tl ρ G fun xs G1 => xs.length ≤ sizeLine ∧ ∀ p, G1 p = none → Q (.ref p) (updG G1 p (.lst xs))) : dLst tl ρ G Q := h
theorem lenOk {P : Prop} {n : Nat} (e : n.ble sizeLine = true) (h : P) : n ≤ sizeLine ∧ P := ⟨Nat.le_of_ble_eq_true e, h⟩
def frzK (Q : DK) : DK := fun d G1 => match d with
  | .ref p => (match G1 p with
    | some (.lst ds) => Q (.lst ds) (dropG G1 p)
    | _ => Q (.ref p) G1)
  | d => Q d G1
theorem iFrz (h : te ρ G (frzK Q)) : dFrz te ρ G Q := h
theorem frzEnd {G : GH} {xs : List D} {Q : DK} (h : Q (.lst xs) G) : ∀ p, G p = none → frzK Q (.ref p) (updG G p (.lst xs)) := by
  intro p hp
  unfold frzK
  dsimp only
  rw [updG_same]
  dsimp only
  rw [dropG_updG hp]
  exact h
theorem frzR {xs : List D} {p : Addr} (e : G p = some (.lst xs)) (h : Q (.lst xs) (dropG G p)) : frzK Q (.ref p) G := by
  unfold frzK
  dsimp only
  rw [e]
  exact h
theorem iOp {r : DR2} (h : ta ρ G fun x G1 => tb ρ G1 fun y G2 => r x y G2 Q) : dOp r ta tb ρ G Q := h
theorem iTst {Qb : Bool → GH → Prop} (h : te ρ G fun d G1 => match d with
  | .bl b => Qb b G1
  | _ => False) : dTst te ρ G Qb := h
theorem iTru {Qb : Bool → GH → Prop} (h : te ρ G fun d G1 => truP G1 d fun b => Qb b G1) : dTru te ρ G Qb := h
theorem iAnd {v w : DTT} {Qb : Bool → GH → Prop} (h : v ρ G fun c G1 => if c = true then w ρ G1 Qb else Qb false G1) : dAnd v w ρ G Qb := h
theorem iOr {v w : DTT} {Qb : Bool → GH → Prop} (h : v ρ G fun c G1 => if c = true then Qb true G1 else w ρ G1 Qb) : dOr v w ρ G Qb := h
theorem iNot {v : DTT} {Qb : Bool → GH → Prop} (h : v ρ G fun c G1 => Qb (!c) G1) : dNot v ρ G Qb := h
theorem iNotV (h : ta ρ G fun x G1 => match x with
  | .bl b => Q (.bl (!b)) G1
  | _ => False) : dNotV ta ρ G Q := h
theorem iIf (h : c ρ G fun b G1 => if b = true then ta ρ G1 Q else tb ρ G1 Q) : dIf c ta tb ρ G Q := h
theorem ifT {A B : Prop} (h : A) : if (true : Bool) = true then A else B := by rw [if_pos rfl]; exact h
theorem ifF {A B : Prop} (h : B) : if (false : Bool) = true then A else B := by rw [if_neg (by decide)]; exact h
theorem ifD {A B : Prop} {p : Prop} [Decidable p] (h1 : p → A) (h2 : ¬ p → B) : if (decide p) = true then A else B := by
  by_cases h : p
  · rw [if_pos (decide_eq_true h)]; exact h1 h
  · rw [if_neg (by simpa using h)]; exact h2 h
theorem iCall {sp : DSp} (h : tl ρ G fun ds G1 => sp ds G1 Q noX) : dCall sp tl ρ G Q := h
theorem iCB {r : DRC} (h : tl ρ G fun ds G1 => r ds G1 Q) : dCB r tl ρ G Q := h
theorem iMt {r : DRM} {to : DTE} (h : to ρ G fun x G1 => lstP G1 x fun _ _ => tl ρ G1 fun ds G2 => r x ds G2 Q) : dMt r to tl ρ G Q := h
theorem iSl {lo hi : DTO} (h : te ρ G fun x G1 => lo ρ G1 fun l G2 => hi ρ G2 fun u G3 => rSl x l u G3 Q) : dSl te lo hi ρ G Q := h
theorem iP {Qo : Option Int → GH → Prop} (h : te ρ G fun d G1 => match d with
  | .int i => Qo (some i) G1
  | _ => False) : dP te ρ G Qo := h
theorem iNoP {Qo : Option Int → GH → Prop} (h : Qo none G) : dNoP ρ G Qo := h
theorem iStar {Ql : List D → GH → Prop} (h : te ρ G fun x G1 => match sqOf G1 x with
  | some l => tr ρ G1 fun r G2 => Ql (l ++ r) G2
  | none => False) : dStar te tr ρ G Ql := h
def getKK (Q : DK) (G : GH) (kvs : List (Key × D)) (k : Key) : Prop := match getK kvs k with
  | some d => Q d G
  | none => False
theorem iDGet (h : ta ρ G fun x G1 => tb ρ G1 fun y G2 => dctP G2 x fun _ kvs => keyP y fun k => getKK Q G2 kvs k) : dDGet ta tb ρ G Q := h
theorem getK_i {kvs : List (Key × D)} {k : Key} {d : D} (e : getK kvs k = some d) (h : Q d G) : getKK Q G kvs k := by unfold getKK; rw [e]; exact h
def isiK (T : String) (Q : DK) : DK := fun d G1 => match tyD G1 d with
  | some s => Q (.bl (subT s T)) G1
  | none => False
theorem iIsi {T : String} (h : te ρ G (isiK T Q)) : dIsi T te ρ G Q := h
theorem isi_i {T : String} {d : D} {s : String} {b : Bool} (e : tyD G d = some s) (e2 : subT s T = b) (h : Q (.bl b) G) : isiK T Q d G := by unfold isiK; rw [e]; dsimp only; rw [e2]; exact h
theorem isi_T {T : String} {d : D} {s : String} (e : tyD G d = some s) (e2 : subT s T = true) (h : Q (.bl true) G) : isiK T Q d G := isi_i e e2 h
theorem isi_F {T : String} {d : D} {s : String} (e : tyD G d = some s) (e2 : subT s T = false) (h : Q (.bl false) G) : isiK T Q d G := isi_i e e2 h
theorem iMatch {cs : List (Option Str × DTS)} (h : te ρ G fun d G1 => dCases cs d E ρ G1) : dMatch te cs E ρ G := h
theorem iFor {wi : DTI} {g : DTG} (h : wi ρ G fun items ok G1 => dForGo ok g t items E ρ G1) : dFor wi g t E ρ G := h
theorem iISq {Qi : List D → (GH → Prop) → GH → Prop} (h : te ρ G fun d G1 => match d with
  | .tup ds => Qi ds okAll G1
  | .lst ds => Qi ds okAll G1
  | .ref a => (match G1 a with
    | some (.lst ds) => Qi ds (fun G => G a = some (.lst ds)) G1
    | _ => False)
  | _ => False) : iSq te ρ G Qi := h
theorem iLc {wi : DTI} {ct : CT} {tt : DTT} {vs : List Nat} (h : wi ρ G fun items ok G1 => ∀ p, G1 p = none → dLcGo ok ct tt te (wipeD ρ vs) p items (updG G1 p (.lst [])) Q) : dLc wi ct tt te vs ρ G Q := h
theorem rIx_i {x d : D} {ds : List D} {i : Int} (e : sqOf G x = some ds) (e2 : atI ds i = some d) (h : Q d G) : rIx x (.int i) G Q := by
  unfold rIx; dsimp only; rw [e]; dsimp only; rw [e2]; exact h
theorem eq_ii {a b : Int} (h : Q (.bl (decide (a = b))) G) : rCmp id (.int a) (.int b) G Q := h
theorem ne_ii {a b : Int} (h : Q (.bl (!decide (a = b))) G) : rCmp not (.int a) (.int b) G Q := h
theorem eq_tt {a b : List D} (h1 : okD (.tup a)) (h2 : okD (.tup b)) (h : Q (.bl (eqvD (.tup a) (.tup b))) G) : rCmp id (.tup a) (.tup b) G Q := ⟨h1, h2, h⟩
theorem ne_tt {a b : List D} (h1 : okD (.tup a)) (h2 : okD (.tup b)) (h : Q (.bl (!eqvD (.tup a) (.tup b))) G) : rCmp not (.tup a) (.tup b) G Q := ⟨h1, h2, h⟩
theorem eq_ll {a b : List D} (h1 : okD (.lst a)) (h2 : okD (.lst b)) (h : Q (.bl (eqvD (.lst a) (.lst b))) G) : rCmp id (.lst a) (.lst b) G Q := ⟨h1, h2, h⟩
theorem ne_ll {a b : List D} (h1 : okD (.lst a)) (h2 : okD (.lst b)) (h : Q (.bl (!eqvD (.lst a) (.lst b))) G) : rCmp not (.lst a) (.lst b) G Q := ⟨h1, h2, h⟩
theorem eq_ts {a : List D} {b : Str} (h1 : okD (.tup a)) (h2 : okD (.str b)) (h : Q (.bl false) G) : rCmp id (.tup a) (.str b) G Q := by
  refine ⟨h1, h2, ?_⟩
  rw [eqvD] <;> first | exact h | (intros; simp_all)
theorem eq_strT {a : Str} (h : Q (.bl true) G) : rCmp id (.str a) (.str a) G Q := by
  have : Q (.bl (decide (a = a))) G := by rw [decide_eq_true rfl]; exact h
  exact this
theorem eq_strF {a b : String} (e : (a == b) = false) (h : Q (.bl false) G) : rCmp id (.str (Str.ofString a)) (.str (Str.ofString b)) G Q := by
  have : Q (.bl (decide (Str.ofString a = Str.ofString b))) G := by rw [decide_eq_false (by rw [ofString_inj]; simpa using e)]; exact h
  exact this
theorem ne_strT {a : Str} (h : Q (.bl false) G) : rCmp not (.str a) (.str a) G Q := by
  have : Q (.bl (!decide (a = a))) G := by rw [decide_eq_true rfl]; exact h
  exact this
theorem ne_strF {a b : String} (e : (a == b) = false) (h : Q (.bl true) G) : rCmp not (.str (Str.ofString a)) (.str (Str.ofString b)) G Q := by
  have : Q (.bl (!decide (Str.ofString a = Str.ofString b))) G := by rw [decide_eq_false (by rw [ofString_inj]; simpa using e)]; exact h
  exact this
theorem caT {a : Str} {t : DTS} {cs : List (Option Str × DTS)} (h : t E ρ G) : dCases ((some a, t) :: cs) (.str a) E ρ G := by
  show (if a = a then t E ρ G else _)
  rw [if_pos rfl]; exact h
theorem caF {a b : String} {t : DTS} {cs : List (Option Str × DTS)} (e : (b == a) = false) (h : dCases cs (.str (Str.ofString b)) E ρ G) : dCases ((some (Str.ofString a), t) :: cs) (.str (Str.ofString b)) E ρ G := by
  show (if Str.ofString b = Str.ofString a then t E ρ G else _)
  rw [if_neg (by rw [ofString_inj]; simpa using e)]; exact h
theorem caN {t : DTS} {cs : List (Option Str × DTS)} {d : D} (h : t E ρ G) : dCases ((none, t) :: cs) d E ρ G := h
theorem add_ii {i j : Int} (h : Q (.int (i + j)) G) : rAdd (.int i) (.int j) G Q := h
theorem add_tt {a b : List D} (e : a.length + b.length ≤ sizeLine) (h : Q (.tup (a ++ b)) G) : rAdd (.tup a) (.tup b) G Q := ⟨e, h⟩
theorem slT {ds : List D} {lo hi : Option Int} (h : Q (.tup (cutD ds lo hi)) G) : rSl (.tup ds) lo hi G Q := h
theorem slS {ns : List Int} {lo hi : Option Int} (h : ∀ p, G p = none → Q (.ref p) (updG G p (.lst (cutD (ns.map D.int) lo hi)))) : rSl (.scr ns) lo hi G Q := h
theorem mul_li {a : List D} {k : Int} (e1 : -(2 ^ 63) ≤ k) (e2 : k < 2 ^ 63) (e3 : a.length * k.toNat ≤ sizeLine) (h : ∀ p, G p = none → Q (.ref p) (updG G p (.lst (List.replicate k.toNat a).flatten))) : rMul (.lst a) (.int k) G Q := ⟨e1, e2, e3, h⟩
theorem add_rl {a b : List D} {q : Addr} (e0 : G q = some (.lst a)) (e : a.length + b.length ≤ sizeLine) (h : ∀ p, G p = none → Q (.ref p) (updG G p (.lst (a ++ b)))) : rAdd (.ref q) (.lst b) G Q := by
  unfold rAdd lsOf
  dsimp only
  rw [e0]
  exact ⟨e, h⟩
theorem add_ll {a b : List D} (e : a.length + b.length ≤ sizeLine) (h : ∀ p, G p = none → Q (.ref p) (updG G p (.lst (a ++ b)))) : rAdd (.lst a) (.lst b) G Q := ⟨e, h⟩
theorem int2 {C : Int → Int → Prop} {f : Int → Int → D} {i j : Int} (e : C i j) (h : Q (f i j) G) : rInt C f (.int i) (.int j) G Q := ⟨e, h⟩
theorem int0 {f : Int → Int → D} {i j : Int} (h : Q (f i j) G) : rInt0 f (.int i) (.int j) G Q := h
theorem mul_ii {i j : Int} (e : CMul i j) (h : Q (.int (i * j)) G) : rMul (.int i) (.int j) G Q := ⟨e, h⟩
theorem mul_ti {a : List D} {k : Int} (e1 : -(2 ^ 63) ≤ k) (e2 : k ≤ 1000) (e3 : a.length ≤ 1000) (h : Q (.tup (List.replicate k.toNat a).flatten) G) : rMul (.tup a) (.int k) G Q := ⟨e1, e2, .inl e3, h⟩
theorem mul_ti' {a : List D} {k : Int} (e1 : -(2 ^ 63) ≤ k) (e2 : k ≤ 1000) (e3 : a.length ≤ 1000 ∨ k ≤ 1) (h : Q (.tup (List.replicate k.toNat a).flatten) G) : rMul (.tup a) (.int k) G Q := ⟨e1, e2, e3, h⟩
theorem len_t {l : List D} (h : Q (.int l.length) G) : rLen [.tup l] G Q := h
theorem len_l {l : List D} (h : Q (.int l.length) G) : rLen [.lst l] G Q := h
theorem len_r {l : List D} {a : Addr} (e : G a = some (.lst l)) (h : Q (.int l.length) G) : rLen [.ref a] G Q := by unfold rLen arg1; dsimp only; rw [e]; exact h
theorem len_d {l : List (Key × D)} {a : Addr} (e : G a = some (.dct l)) (h : Q (.int l.length) G) : rLen [.ref a] G Q := by unfold rLen arg1; dsimp only; rw [e]; exact h
theorem tupC_l {l : List D} (h : Q (.tup l) G) : rTupC [.lst l] G Q := h
theorem tupC_r {l : List D} {a : Addr} (e : G a = some (.lst l)) (h : Q (.tup l) G) : rTupC [.ref a] G Q := by unfold rTupC arg1 sqOf; dsimp only; rw [e]; exact h
theorem lstC_t {l : List D} (h : ∀ p, G p = none → Q (.ref p) (updG G p (.lst l))) : rLstC [.tup l] G Q := h
theorem lstC_l {l : List D} (h : ∀ p, G p = none → Q (.ref p) (updG G p (.lst l))) : rLstC [.lst l] G Q := h
theorem intC_i {i : Int} (h : Q (.int i) G) : rIntC [.int i] G Q := h
theorem intC_b {b : Bool} (h : Q (.int (if b then 1 else 0)) G) : rIntC [.bl b] G Q := h
theorem max2_ii {i j : Int} (h : Q (.int (if j > i then j else i)) G) : rMax2 [.int i, .int j] G Q := h
theorem min2_ii {i j : Int} (h : Q (.int (if j < i then j else i)) G) : rMin2 [.int i, .int j] G Q := h
theorem repr_i {x : D} (e : Shw (vw G x)) (h : Q (.str (shD (vw G x))) G) : rRepr [x] G Q := ⟨e, h⟩
theorem lstP_i {a : Addr} {l : List D} {P : Addr → List D → Prop} (e : G a = some (.lst l)) (h : P a l) : lstP G (.ref a) P := by unfold lstP; dsimp only; rw [e]; exact h
theorem dctP_i {a : Addr} {l : List (Key × D)} {P : Addr → List (Key × D) → Prop} (e : G a = some (.dct l)) (h : P a l) : dctP G (.ref a) P := by unfold dctP; dsimp only; rw [e]; exact h
theorem keyP_s {x : Str} {P : Key → Prop} (h : P (.inr x)) : keyP (.str x) P := h
theorem keyP_i {x : Int} {P : Key → Prop} (h : P (.inl x)) : keyP (.int x) P := h
theorem app_i {a : Addr} {l : List D} {d : D} (e : G a = some (.lst l)) (z : l.length < sizeLine) (h : Q .non (updG G a (.lst (l ++ [d])))) : mAppend (.ref a) [d] G Q := lstP_i e ⟨z, h⟩
theorem ext_i {a : Addr} {l m : List D} {d : D} (e : G a = some (.lst l)) (e2 : sqOf G d = some m) (z : l.length + m.length ≤ sizeLine) (h : Q .non (updG G a (.lst (l ++ m)))) : mExtend (.ref a) [d] G Q := by
  refine lstP_i e ?_
  unfold arg1
  dsimp only
  rw [e2]
  exact ⟨z, h⟩
theorem pop_i {a : Addr} {l : List D} {d : D} (e : G a = some (.lst (l ++ [d]))) (h : Q d (updG G a (.lst l))) : mPop (.ref a) [] G Q := by
  refine lstP_i e ?_
  dsimp only
  rw [show (l ++ [d])[(l ++ [d]).length - 1]? = some d from by simp]
  dsimp only
  rw [List.dropLast_concat]
  exact h
theorem truB {b : Bool} {P : Bool → Prop} (h : P b) : truP G (.bl b) P := h
end
end Dl
namespace Dl
open PySem L2
theorem lc_map {α : Type} {ok : GH → Prop} {ct : CT} {te : DTE} {ρ : DSt} {p : Addr} {Q : DK} {g h : α → D} {xs : List α} {G : GH} (hp : G p = none) (hok : ∀ G, ok G) (hl : xs.length ≤ sizeLine) (hf : ∀ x ∈ xs, PureE te ct ρ (g x) (h x))
    (hq : ∀ G', Grow G G' → G' p = some (.lst (xs.map h)) → Q (.ref p) G') : dLcGo ok ct dYes te ρ p (xs.map g) (updG G p (.lst [])) Q := by
  refine dLcGo_of (I := fun rest acc G' => ∃ rs, rest = rs.map g ∧ acc ++ rs.map h = xs.map h ∧ (∀ x ∈ rs, x ∈ xs) ∧ Grow G G' ∧ G' p = some (.lst acc)) ?_ ?_ _ [] _ ⟨xs, rfl, rfl, fun _ h => h, Grow.upd hp, updG_same⟩
  · rintro acc G' ⟨rs, e0, e, -, gg, ep⟩
    cases rs with
    | cons => cases e0
    | nil =>
      refine ⟨hok _, hq _ gg ?_⟩
      rw [← e, List.map_nil, List.append_nil]
      exact ep
  · rintro x rest acc G' ⟨rs, e0, e, m, gg, ep⟩
    cases rs with
    | nil => cases e0
    | cons r rs =>
      injection e0 with e1 e2
      subst e1 e2
      obtain ⟨ρ2, e2, k⟩ := hf r (m r (List.mem_cons_self ..))
      refine ⟨hok _, ρ2, e2, fun K hK => k G' K fun G4 g4 => ?_⟩
      refine hK _ G4 (g4 _ _ ep) ?_ ⟨rs, rfl, ?_, fun y hy => m y (List.mem_cons_of_mem _ hy), Grow.upd2 hp (gg.trans g4), updG_same⟩
      · have := congrArg List.length e
        simp at this
        omega
      · rw [← e]; simp
theorem lcF {α : Type} (xs : List α) (g h : α → D) {wi : DTI} {ct : CT} {te : DTE} {ρ : DSt} {vs : List Nat} {G : GH} {Q : DK} (hw : ∀ P : List D → (GH → Prop) → GH → Prop, (∀ ok G1, (∀ G, ok G) → Grow G G1 → P (xs.map g) ok G1) → wi ρ G P)
    (hl : xs.length ≤ sizeLine) (hf : ∀ x ∈ xs, PureE te ct (wipeD ρ vs) (g x) (h x)) (hq : ∀ G', Grow G G' → Q (.lst (xs.map h)) G') : dLc wi ct dYes te vs ρ G (frzK Q) := by
  unfold dLc
  refine hw _ ?_
  intro ok G1 hok g1 p hp
  refine lc_map hp hok hl hf ?_
  intro G' gg e
  exact frzR e (hq _ (g1.trans (Grow.drop hp gg)))
section
variable {E : DEnds} {ρ : DSt} {G : GH} {Q : DK} {te ta tb : DTE} {tl : DTA} {Qi : List D → (GH → Prop) → GH → Prop}
theorem iIRg1 (h : tl ρ G fun ds G1 => match ds with
  | [.int j] => -(2 ^ 62) ≤ j ∧ j < 2 ^ 62 ∧ Qi (rngD 0 j.toNat) okAll G1
  | _ => False) : iRg1 tl ρ G Qi := h
theorem iIRg2 (h : tl ρ G fun ds G1 => match ds with
  | [.int i, .int j] => (-(2 ^ 62) ≤ i ∧ i < 2 ^ 62 ∧ -(2 ^ 62) ≤ j ∧ j < 2 ^ 62) ∧ Qi (rngD i (j - i).toNat) okAll G1
  | _ => False) : iRg2 tl ρ G Qi := h
theorem iIEnT (h : te ρ G fun d G1 => match d with
  | .tup ds => Qi (enumD ds) okAll G1
  | _ => False) : iEnT te ρ G Qi := h
theorem add_llb {a b : List D} (e : (a.length + b.length).ble sizeLine = true) (h : ∀ p, G p = none → Q (.ref p) (updG G p (.lst (a ++ b)))) : rAdd (.lst a) (.lst b) G Q := ⟨Nat.le_of_ble_eq_true e, h⟩
theorem add_ttb {a b : List D} (e : (a.length + b.length).ble sizeLine = true) (h : Q (.tup (a ++ b)) G) : rAdd (.tup a) (.tup b) G Q := ⟨Nat.le_of_ble_eq_true e, h⟩
end
@[simp] theorem rep_one {α : Type} (k : Nat) (x : α) : (List.replicate k [x]).flatten = List.replicate k x := by
  induction k with
  | zero => rfl
  | succ k ih => rw [List.replicate_succ, List.flatten_cons, ih, List.replicate_succ]; rfl
theorem toDs_rep (k : Nat) (w : Wk) : toDs (List.replicate k w) = List.replicate k (toD w) := by rw [toDs_map]; simp
theorem cut1 (x : D) (xs : List D) : cutD (x :: xs) (some 1) none = xs := by
  unfold cutD HT.sIx
  simp
theorem rngD_map (lo : Int) (n : Nat) : rngD lo n = (List.range n).map fun i => D.int (lo + (i : Nat)) := rfl
theorem enumD_map (ds : List D) : enumD ds = (List.range ds.length).map fun i => D.tup [.int (i : Nat), ds.getD i .non] := rfl
end Dl
namespace Dl
open PySem L2
section
variable {E : DEnds} {ρ : DSt} {G : GH} {Q : DK} {te ta tb : DTE} {tl : DTA} {Qi : List D → (GH → Prop) → GH → Prop}
theorem inn_T {x y : D} {ds : List D} (e : sqOf G y = some ds) (h1 : flatD x = true) (h2 : ds.all flatD = true) (e3 : inD x ds = true) (h : Q (.bl true) G) : rInn id x y G Q := by
  unfold rInn; rw [e]; exact ⟨h1, h2, by rw [e3]; exact h⟩
theorem inn_F {x y : D} {ds : List D} (e : sqOf G y = some ds) (h1 : flatD x = true) (h2 : ds.all flatD = true) (e3 : inD x ds = false) (h : Q (.bl false) G) : rInn id x y G Q := by
  unfold rInn; rw [e]; exact ⟨h1, h2, by rw [e3]; exact h⟩
def dispK (Q : DK) (p : Addr) (ps : List (D × D)) (G2 : GH) : Prop := G2 p = some (.dct []) ∧ match keysD ps with
  | some kvs => kvs.length ≤ 15 ∧ Q (.ref p) (updG G2 p (.dct (mergeD [] kvs)))
  | none => False
theorem iDisp {trs : List (DTE × DTE)} (h : ∀ p, G p = none → dPairs trs ρ (updG G p (.dct [])) (dispK Q p)) : dDisp trs ρ G Q := h
theorem iPsN {Qp : List (D × D) → GH → Prop} (h : Qp [] G) : dPairs [] ρ G Qp := h
theorem iPsC {Qp : List (D × D) → GH → Prop} {r : List (DTE × DTE)} (h : ta ρ G fun x G1 => tb ρ G1 fun y G2 => dPairs r ρ G2 fun ps G3 => Qp ((x, y) :: ps) G3) : dPairs ((ta, tb) :: r) ρ G Qp := h
theorem dispEnd {p : Addr} {ps : List (D × D)} {kvs : List (Key × D)} (e : G p = some (.dct [])) (e2 : keysD ps = some kvs) (hl : kvs.length.ble 15 = true) (h : Q (.ref p) (updG G p (.dct (mergeD [] kvs)))) : dispK Q p ps G := by
  refine ⟨e, ?_⟩
  rw [e2]
  exact ⟨Nat.le_of_ble_eq_true hl, h⟩
end
theorem lcP {α : Type} (xs : List α) (g : α → D) (P : D → Prop) {wi : DTI} {ct : CT} {te : DTE} {ρ : DSt} {vs : List Nat} {G : GH} {Q : DK} (hw : ∀ P : List D → (GH → Prop) → GH → Prop, (∀ ok G1, (∀ G, ok G) → Grow G G1 → P (xs.map g) ok G1) → wi ρ G P)
    (hl : xs.length ≤ sizeLine) (hf : ∀ x ∈ xs, ∃ ρ2, bindC ct (g x) (wipeD ρ vs) = some ρ2 ∧ ∀ (G : GH) (K : DK), (∀ y G', P y → Grow G G' → K y G') → te ρ2 G K)
    (hq : ∀ l G', (∀ y ∈ l, P y) → l.length = xs.length → Grow G G' → Q (.lst l) G') : dLc wi ct dYes te vs ρ G (frzK Q) := by
  unfold dLc
  refine hw _ ?_
  intro ok G1 hok g1 p hp
  refine dLcGo_of (I := fun rest acc G' => ∃ rs, rest = rs.map g ∧ acc.length + rs.length = xs.length ∧ (∀ y ∈ acc, P y) ∧ (∀ x ∈ rs, x ∈ xs) ∧ Grow G1 G' ∧ G' p = some (.lst acc)) ?_ ?_ _ [] _ ⟨xs, rfl, by simp, (fun y hy => by cases hy), fun _ h => h, Grow.upd hp, updG_same⟩
  · rintro acc G' ⟨rs, e0, e, ha, -, gg, ep⟩
    cases rs with
    | cons => cases e0
    | nil => exact ⟨hok _, frzR ep (hq _ _ ha (by simpa using e) (g1.trans (Grow.drop hp gg)))⟩
  · rintro x rest acc G' ⟨rs, e0, e, ha, m, gg, ep⟩
    cases rs with
    | nil => cases e0
    | cons r rs =>
      injection e0 with e1 e2
      subst e1 e2
      obtain ⟨ρ2, e2, k⟩ := hf r (m r (List.mem_cons_self ..))
      refine ⟨hok _, ρ2, e2, fun K hK => k G' K fun y G4 hy g4 => ?_⟩
      rw [List.length_cons] at e
      refine hK _ G4 (g4 _ _ ep) (by omega) ⟨rs, rfl, by rw [List.length_append, List.length_singleton]; omega, fun z hz => ?_, fun y hy => m y (List.mem_cons_of_mem _ hy), Grow.upd2 hp (gg.trans g4), updG_same⟩
      rcases List.mem_append.mp hz with q | q
      · exact ha z q
      · rw [List.mem_singleton] at q; subst q; exact hy
theorem intsD_all : ∀ {l : List D}, (∀ y ∈ l, ∃ i : Int, y = .int i) → ∃ ns, intsD l = some ns ∧ ns.length = l.length
  | [], _ => ⟨[], by simp [intsD], rfl⟩
  | d :: l, h => by
    obtain ⟨i, rfl⟩ := h d (List.mem_cons_self ..)
    obtain ⟨ns, e, hl⟩ := intsD_all fun y hy => h y (List.mem_cons_of_mem _ hy)
    exact ⟨i :: ns, by simp [intsD, e], by simp [hl]⟩
end Dl
namespace Dl
open PySem L2
theorem seqC {t u : DTS} {E : DEnds} {ρ : DSt} {G : GH} (P : DSt → GH → Prop) (h1 : ∀ K : DSt → GH → Prop, (∀ ρ G, P ρ G → K ρ G) → t { E with nx := K } ρ G) (h2 : ∀ ρ G, P ρ G → u E ρ G) : dSeq t u E ρ G := h1 _ h2
theorem ifDT {A B p : Prop} [Decidable p] (h : p) (a : A) : if (decide p) = true then A else B := by rw [if_pos (decide_eq_true h)]; exact a
theorem ifDF {A B p : Prop} [Decidable p] (h : ¬ p) (b : B) : if (decide p) = true then A else B := by rw [if_neg (by simpa using h)]; exact b
theorem sLst_i {a : Addr} {l : List D} {i : Int} {j : Nat} {d : D} {G : GH} {Q : GH → Prop} (e : G a = some (.lst l)) (e2 : ixN l.length i = some j) (h : Q (updG G a (.lst (l.set j d)))) : sLst (.ref a) (.int i) d G Q := by
  refine lstP_i e ?_
  dsimp only
  rw [e2]
  exact h
theorem andT {A B : Prop} {p : Prop} [Decidable p] (h : p) (a : A) : (match D.bl (decide p) with
  | .bl true => A
  | .bl false => B
  | _ => False) := by rw [decide_eq_true h]; exact a
def andVK (tb : DTE) (ρ : DSt) (Q : DK) : DK := fun x G1 => match x with
  | .bl true => tb ρ G1 Q
  | .bl false => Q (.bl false) G1
  | _ => False
theorem iAndVK {ta tb : DTE} {ρ : DSt} {G : GH} {Q : DK} (h : ta ρ G (andVK tb ρ Q)) : dAndV ta tb ρ G Q := h
theorem andVT {tb : DTE} {ρ : DSt} {G : GH} {Q : DK} (h : tb ρ G Q) : andVK tb ρ Q (.bl true) G := h
theorem andVF {tb : DTE} {ρ : DSt} {G : GH} {Q : DK} (h : Q (.bl false) G) : andVK tb ρ Q (.bl false) G := h
theorem andVD {tb : DTE} {ρ : DSt} {G : GH} {Q : DK} {p : Prop} [Decidable p] (h1 : p → tb ρ G Q) (h2 : ¬ p → Q (.bl false) G) : andVK tb ρ Q (.bl (decide p)) G := by
  by_cases h : p
  · rw [decide_eq_true h]; exact h1 h
  · rw [decide_eq_false h]; exact h2 h
theorem andVDT {tb : DTE} {ρ : DSt} {G : GH} {Q : DK} {p : Prop} [Decidable p] (h : p) (a : tb ρ G Q) : andVK tb ρ Q (.bl (decide p)) G := by rw [decide_eq_true h]; exact a
theorem andVDF {tb : DTE} {ρ : DSt} {G : GH} {Q : DK} {p : Prop} [Decidable p] (h : ¬ p) (a : Q (.bl false) G) : andVK tb ρ Q (.bl (decide p)) G := by rw [decide_eq_false h]; exact a
theorem rIx_r {a : Addr} {l : List D} {i : Int} {d : D} {G : GH} {Q : DK} (e : G a = some (.lst l)) (e2 : atI l i = some d) (h : Q d G) : rIx (.ref a) (.int i) G Q := rIx_i (ds := l) (by unfold sqOf; dsimp only; rw [e]) e2 h
theorem ifNT {A B : Prop} (h : B) : if (!true) = true then A else B := by rw [if_neg (by decide)]; exact h
theorem ifNF {A B : Prop} (h : A) : if (!false) = true then A else B := by rw [if_pos (by decide)]; exact h
theorem callee0 {P : Program} {w : World} {K : PySem.W.Frag} {mg : Str → Option Value} {base : Heap} {x qual : Str} {params : Arguments} {body : List Stmt} {scope : Scope} {f : Addr} {fd : FuncData} {ps : List Str} {sp : DSp}
    (F : FunD K x qual params body scope [] [] f fd) (hm : mg x = some (.ref f)) (h : ∀ ds G Q E, ¬ sp ds G Q E)
    (b1 : ∀ (kV doc pm : Value) (an : Option Addr) (cdv ct : Value) (us : List Value), us.length = ps.length → bindArgs (PySem.W.fnOf x qual params body scope .none kV doc pm an cdv ct) ⟨us, []⟩ = pure (ps.zip us))
    (b2 : ∀ (kV doc pm : Value) (an : Option Addr) (cdv ct : Value) (us : List Value), us.length = ps.length → bindArgs (PySem.W.fnOf x qual params body scope .none kV doc pm an cdv ct) ⟨[], ps.zip us⟩ = pure (ps.zip us)) : Callee P w K mg base 0 x ps sp :=
  callee_of F hm ⟨fun _ _ _ _ ⟨_, _, _, _, _, _, q, _⟩ => (h _ _ _ _ q).elim, fun _ _ _ _ _ _ _ _ _ _ _ _ _ _ ⟨_, _, _, _, _, _, q, _⟩ => (h _ _ _ _ q).elim⟩ b1 b2
end Dl
namespace Dl
open PySem L2
def pick1 {α : Type} (us its ws : List α) (q : Nat × Nat) : Option α := if q.1 = 0 then us[q.2]? else if q.1 = 1 then its[q.2]? else ws[q.2]?
def pick {α : Type} (src : List (Nat × Nat)) (us its ws : List α) : List α := match src with
  | [] => []
  | q :: r => (pick1 us its ws q).toList ++ pick r us its ws
theorem at_vals {a : List V} {b : List Value} (h : Vals a b) (j : Nat) : Vals a[j]?.toList b[j]?.toList := by
  cases e : a[j]? with
  | none => rw [h.none_of e]; exact .nil
  | some v => obtain ⟨u, e2, r⟩ := h.get e; rw [e2]; exact .cons r .nil
theorem pick_vals {xs dv zs : List V} {us its ws : List Value} (h1 : Vals xs us) (h2 : Vals dv its) (h3 : Vals zs ws) : ∀ {src : List (Nat × Nat)}, Vals (pick src xs dv zs) (pick src us its ws)
  | [] => .nil
  | q :: r => by
    unfold pick
    refine Vals.append ?_ (pick_vals h1 h2 h3)
    unfold pick1
    split
    · exact at_vals h1 _
    · split
      · exact at_vals h2 _
      · exact at_vals h3 _
theorem at_reps {K : PySem.W.Frag} {G : GH} {H : Hp} {a : List V} {b : List D} (h : RepL K G H b a) (j : Nat) : RepL K G H b[j]?.toList a[j]?.toList := by
  cases e : b[j]? with
  | none =>
    have e2 : a[j]? = none := by
      cases e3 : a[j]? with
      | none => rfl
      | some v => obtain ⟨d, e4, _⟩ := h.get' e3; rw [e] at e4; cases e4
    rw [e2]; exact repL_nil
  | some v => obtain ⟨u, e2, r⟩ := h.get e; rw [e2]; exact repL_cons r repL_nil
theorem pick_reps {K : PySem.W.Frag} {G : GH} {H : Hp} {xs dv zs : List V} {us its ws : List D} (h1 : RepL K G H us xs) (h2 : RepL K G H its dv) (h3 : RepL K G H ws zs) : ∀ {src : List (Nat × Nat)}, RepL K G H (pick src us its ws) (pick src xs dv zs)
  | [] => repL_nil
  | q :: r => by
    unfold pick
    refine RepL.append ?_ (pick_reps h1 h2 h3)
    unfold pick1
    split
    · exact at_reps h1 _
    · split
      · exact at_reps h2 _
      · exact at_reps h3 _
structure CalleeG (P : Program) (w : World) (K : PySem.W.Frag) (mg : Str → Option Value) (base : Heap) (k : Nat) (x : Str) (n : Nat) (ks : List Str) (src : List (Nat × Nat)) (dv : List D) (sp : DSp) : Prop where
  ex : ∃ f fd ps, DFn P w K mg base k f fd ps sp ∧ mg x = some (.ref f) ∧ PySem.W.keepIn K (.ref f) = true ∧ ∃ (its : List Value) (dvs : List V), Vals dvs its ∧ (∀ G H, RepL K G H dv dvs) ∧
    ∀ (s : Shared) (us ws : List Value), K.In s.heap → us.length = n → ws.length = ks.length → BindsTo s fd ⟨us, ks.zip ws⟩ (ps.zip (pick src us its ws))
theorem CalleeG.up {P : Program} {w : World} {K : PySem.W.Frag} {mg : Str → Option Value} {base : Heap} {j k n : Nat} {x : Str} {ks : List Str} {src : List (Nat × Nat)} {dv : List D} {sp : DSp} (C : CalleeG P w K mg base j x n ks src dv sp) (h : j ≤ k) : CalleeG P w K mg base k x n ks src dv sp := by
  obtain ⟨f, fd, ps, F, a⟩ := C.ex
  exact ⟨f, fd, ps, F.up h, a⟩
@[simp] def dCallG (sp : DSp) (n m : Nat) (src : List (Nat × Nat)) (dv : List D) (ta tk : DTA) : DTE := fun ρ G Q => ta ρ G fun ds G1 => tk ρ G1 fun es G2 => ds.length = n ∧ es.length = m ∧ sp (pick src ds dv es) G2 Q noX
section
variable {X : Cx} {k n : Nat} {x : Str} {ks : List Str} {src : List (Nat × Nat)} {dv : List D} {sp : DSp} {p pos : Pos} {e : Expr} {es : List Expr} {ta tk : DTA} {kws : List Keyword}
theorem dcg_run {f : Addr} {fd : FuncData} {ps : List Str} {its : List Value} {dvs : List V} (F : DFn X.prog X.w X.K X.mg X.base k f fd ps sp) (hr : Room k X.A) (hgd : X.A.guards = some []) (hv : Vals dvs its) (hd : ∀ G H, RepL X.K G H dv dvs)
    (hb : ∀ (s : Shared) (us ws : List Value), X.K.In s.heap → us.length = n → ws.length = ks.length → BindsTo s fd ⟨us, ks.zip ws⟩ (ps.zip (pick src us its ws))) {pins : List (Addr × Obj)} {σ : St} {H : Hp} {s : Shared} {Q : VK} {us ws : List Value} {vs zs : List V}
    (I : Inv X pins σ H s) (r : Vals vs us) (rz : Vals zs ws) (l1 : vs.length = n) (l2 : zs.length = ks.length) (h : toSp X.K sp (pick src vs dvs zs) H Q E0) : wpAny (model X.prog X.w) X.A (call (.ref f) us (ks.zip ws)) (EP X pins σ Q) X.xe s := by
  refine wpAny_call (codeAny_mono (F.go X.A X.stack s H ⟨us, ks.zip ws⟩ _ _ Q E0 hr hgd I.env0 (hb s us ws I.kIn (r.length.symm.trans l1) (rz.length.symm.trans l2)) (pick_vals r hv rz) h) ?_)
  intro res s2 hq
  match res, hq with
  | .error er, hq => exact hq.elim
  | .ok (.ret u), hq => exact I.after hq
theorem dcg {m : Nat} (C : CalleeG X.prog X.w X.K X.mg X.base k x n ks src dv sp) (hr : Room k X.A) (hgd : X.A.guards = some []) (hg : Gl X x) (ha : DA X (e :: es) ta) (hkw : DKw X kws tk)
    (hall : (backToKw pos (keywordEach kws X.env)).all (·.1.isSome) = true := by rfl) (hks : (backToKw pos (keywordEach kws X.env)).filterMap (·.1) = ks := by rfl)
    (hdb : (x == ("__debug__" : Str)) = false := by decide) (he : starEach (e :: es) X.env = (false, eval e X.env) :: starEach es X.env := by rfl)
    (hpl : ((backTo pos (starEach (e :: es) X.env)).any (·.1) || (backToKw pos (keywordEach kws X.env)).any (·.1.isNone)) = false := by rfl) (hl : ks.length = m := by rfl) : DE X (.Call (.Name x p) (e :: es) kws pos) (dCallG sp n m src dv ta tk) := by
  subst hl
  obtain ⟨f, fd, ps, F, hm, hk, its, dvs, hv, hd, hb⟩ := C.ex
  refine ⟨fun pins s σ H Q I ⟨ρ, G, q, r, h, kk⟩ => ?_⟩
  refine wpAny_Call_Name_kw (ld_glob I hg hm ?_ hdb)
  refine PySem.W.callWith_KW (h₀ := X.base) I.ok.mod.kin hk hall (thn (ha.run pos pins s σ H (fun vs H1 => upA X.K tk σ H1 fun zs H2 => vs.length = n ∧ zs.length = ks.length ∧ toSp X.K sp (pick src vs dvs zs) H2 Q E0) I ⟨ρ, G, _, r, h, fun vs ds H1 G1 e1 r1 v1 h1 => ?_⟩) fun us s1 ⟨vs, H1, I1, rv, q1⟩ => ?_) hpl he
  · refine ⟨ρ, G1, _, r1, h1, fun zs es H2 G2 e2 r2 v2 ⟨l1, l2, h2⟩ => ⟨by rw [v1.length]; exact l1, by rw [v2.length]; exact l2, ?_⟩⟩
    exact sp_at r2 (pick_reps (v1.ext e2) (hd G2 H2) v2) h2 fun v d H' G' e3 r3 v3 h3 => kk v d H' G' ((e1.trans e2).trans e3) r3 v3 h3
  · refine thn (hkw.run pos pins s1 σ H1 _ I1 q1) fun ws s2 ⟨zs, H2, I2, rz, l1, l2, q2⟩ => ⟨I2.kIn, ?_⟩
    rw [hks, List.nil_append]
    exact dcg_run F hr hgd hv hd hb I2 rv rz l1 l2 q2
end
section
variable {P : Program} {w : World} {K : PySem.W.Frag} {mg : Str → Option Value} {base : Heap} {k n : Nat} {x qual : Str} {params : Arguments} {body : List Stmt} {scope : Scope} {f : Addr} {fd : FuncData} {ps ks : List Str} {src : List (Nat × Nat)} {sp : DSp}
theorem calleeD_of {dvs : List V} {dv : List Dl.D} (F : FunD K x qual params body scope dvs [] f fd) (hne : dvs ≠ []) (hd : ∀ G H, RepL K G H dv dvs) (hm : mg x = some (.ref f)) (D : DFn P w K mg base k f fd ps sp)
    (b : ∀ (T : Addr) (kV doc pm : Value) (an : Option Addr) (cdv ct : Value) (us its ws : List Value), us.length = n → its.length = dvs.length → ws.length = ks.length →
      ∃ kk, bindArgs (PySem.W.fnOf x qual params body scope (.ref T) kV doc pm an cdv ct) ⟨us, ks.zip ws⟩ = seqItems? (.ref T) >>= kk ∧ kk (some its.toArray) = pure (ps.zip (pick src us its ws))) : CalleeG P w K mg base k x n ks src dv sp := by
  obtain ⟨oc, od, dV, kV, doc, pm, an, cdv, ct, osl, rfl, lk, hcd, hD, hK⟩ := F.ex
  rcases hD with ⟨e, _⟩ | ⟨_, T, o, its, m, rfl, lT, oT, rT⟩
  · exact absurd e hne
  · refine ⟨f, _, ps, D, hm, F.kp, its, dvs, rT, hd, ?_⟩
    intro s us ws X h1 h2
    obtain ⟨kk, e1, e2⟩ := b T kV doc pm an cdv ct us its ws h1 rT.length.symm h2
    refine BindsTo.of_looks fun M => ?_
    rw [e1]
    exact looks_items X lT oT (.of_pure e2)
end
end Dl
namespace Dl
open PySem L2
section
variable {X : Cx}
end
end Dl
namespace Dl
open PySem PySem.Spec PyProof.Rows HT
section
variable {prog : Program} {w : World} {A : Around} {E : Value → Shared → Prop} {s : Shared}
end
end Dl
namespace Dl
open PySem L2
@[simp] def rRev : D → GH → DK → Prop := fun x G Q => match x with
  | .tup ds => Q (.tup ds.reverse) G
  | .lst ds => ∀ p, G p = none → Q (.ref p) (updG G p (.lst ds.reverse))
  | .ref a => (match G a with
    | some (.lst ds) => ∀ p, G p = none → Q (.ref p) (updG G p (.lst ds.reverse))
    | _ => False)
  | _ => False
@[simp] def dRev (te : DTE) : DTE := fun ρ G Q => te ρ G fun x G1 => rRev x G1 Q
section
open PySem.Spec PyProof.Rows
variable {X : Cx}
end
end Dl
namespace Dl
open PySem L2
section
variable {X : Cx}
theorem iRev {te : DTE} {ρ : DSt} {G : GH} {Q : DK} (h : te ρ G fun x G1 => rRev x G1 Q) : dRev te ρ G Q := h
theorem revT {ds : List D} {G : GH} {Q : DK} (h : Q (.tup ds.reverse) G) : rRev (.tup ds) G Q := h
theorem revL {ds : List D} {G : GH} {Q : DK} (h : ∀ p, G p = none → Q (.ref p) (updG G p (.lst ds.reverse))) : rRev (.lst ds) G Q := h
theorem iCallG {sp : DSp} {n m : Nat} {src : List (Nat × Nat)} {dv : List D} {ta tk : DTA} {ρ : DSt} {G : GH} {Q : DK} (h : ta ρ G fun ds G1 => tk ρ G1 fun es G2 => ds.length = n ∧ es.length = m ∧ sp (pick src ds dv es) G2 Q noX) : dCallG sp n m src dv ta tk ρ G Q := h
end
end Dl
namespace Dl
open PySem L2
structure ShwA (d : D) : Prop where
  ok : okD d
  few : fewD d = true
  len : (shD d).length ≤ sizeLine
theorem Shw.a {d : D} (h : Shw d) : ShwA d := ⟨h.ok, h.few, h.len⟩
@[simp] def rReprA : DRC := fun ds G Q => arg1 ds fun x => ShwA (vw G x) ∧ Q (.str (shD (vw G x))) G
section
variable {X : Cx}
theorem c_reprA (hgd : X.A.guards = some []) (hu : X.A.units + 70 < cLine) : DCall X (.builtin "repr") rReprA := by
  intro pins s σ H xs us Q I r ⟨G, ds, q, g, rl, h0, k⟩
  obtain ⟨d, rfl, hS, h⟩ := arg1_of h0
  by_cases hsq : isSeqD (vw G d) = true
  · exact c_repr hgd hu pins s σ H xs us Q I r ⟨G, [d], q, g, rl, ⟨⟨hsq, hS.ok, hS.few, hS.len⟩, h⟩, k⟩
  · obtain ⟨x, rfl, rx⟩ := repL_1 rl
    obtain ⟨u, rfl, ru⟩ := vals1 r
    have hp := hS.ok.1
    have hlen := hS.len
    have hfew := hS.few
    have hv : vw G d = d := by
      cases d with
      | ref a =>
        dsimp only [vw] at hsq ⊢
        split
        · rename_i e; rw [e] at hsq; exact absurd rfl hsq
        · rfl
      | _ => rfl
    rw [hv] at h hp hsq hlen hfew
    cases d with
    | non => cases rv_non rx; cases ru; exact PySem.P.repr_of_none ⟨.str _, H, I.tok _, ⟨_, rfl⟩, k _ _ H G (Ext.refl G H) g str_rv h⟩
    | bl b => cases rv_bl rx; cases ru; exact PySem.P.repr_of_bool ⟨.str _, H, I.tok _, ⟨_, rfl⟩, k _ _ H G (Ext.refl G H) g str_rv h⟩
    | int i =>
      cases rv_int rx
      obtain ⟨t, rfl⟩ := ru
      exact PySem.P.repr_of_int (by simpa [fewD] using hfew) ⟨.str _, H, I.tok _, ⟨_, rfl⟩, k _ _ H G (Ext.refl G H) g str_rv h⟩
    | str z =>
      cases rv_str rx
      obtain ⟨t, rfl⟩ := ru
      exact PySem.P.repr_of_str ⟨.str _, H, I.tok _, ⟨_, rfl⟩, k _ _ H G (Ext.refl G H) g str_rv h⟩ hlen
    | tup l => exact absurd rfl hsq
    | lst l => exact absurd rfl hsq
    | byt _ => simp [pureD] at hp
    | ref _ => simp [pureD] at hp
    | scr _ => simp [pureD] at hp
    | fn _ _ _ _ => simp [pureD] at hp
    | exh _ _ _ _ _ => simp [pureD] at hp
end
end Dl
namespace Dl
open PySem L2
def cleanC (c : Nat) : Bool := (48 ≤ c && c ≤ 57) || (65 ≤ c && c ≤ 90) || c == 95 || (97 ≤ c && c ≤ 122)
def cleanS (x : Str) : Bool := x.cps.toList.all cleanC
mutual
def cleanD : D → Bool
  | .non => true
  | .bl _ => true
  | .int _ => true
  | .str x => cleanS x
  | .tup ds => cleanDs ds
  | .lst ds => cleanDs ds
  | _ => false
def cleanDs : List D → Bool
  | [] => true
  | d :: ds => cleanD d && cleanDs ds
end
def shL (d : D) : List Nat := (shD d).cps.toList
theorem cps_app (a b : Str) : (a ++ b).cps.toList = a.cps.toList ++ b.cps.toList := by
  show (a.cps ++ b.cps).toList = _
  simp
theorem shL_non : shL .non = [78, 111, 110, 101] := by decide +kernel
theorem shL_bl (b : Bool) : shL (.bl b) = if b then [84, 114, 117, 101] else [70, 97, 108, 115, 101] := by cases b <;> decide +kernel
theorem shL_int (i : Int) : shL (.int i) = i.repr.toList.map Char.toNat := by
  show (Str.ofString (toString i)).cps.toList = _
  rw [Str.ofString_eq_toList]
  rfl
theorem clean_print : ∀ c < 123, cleanC c = true → Builtin.Str.reprChar 39 c = [c] := by decide +kernel
theorem clean_lt {c : Nat} (h : cleanC c = true) : c < 123 ∧ c ≠ 39 := by
  simp only [cleanC, Bool.or_eq_true, Bool.and_eq_true, decide_eq_true_eq, beq_iff_eq] at h
  omega
theorem shL_str {x : Str} (h : cleanS x = true) : shL (.str x) = 39 :: x.cps.toList ++ [39] := by
  have hc : ∀ c ∈ x.cps.toList, cleanC c = true := List.all_eq_true.mp h
  have hq : reprQuote x = 39 := by
    unfold reprQuote
    rw [if_neg]
    intro e
    rw [Bool.and_eq_true] at e
    have : 39 ∈ x.cps := Array.contains_iff_mem.mp e.1
    exact (clean_lt (hc 39 (Array.mem_toList_iff.mpr this))).2 rfl
  have fold : ∀ (l : List Nat) (acc : Array Nat), (∀ c ∈ l, cleanC c = true) → (l.foldl (fun out c => out ++ (Builtin.Str.reprChar 39 c).toArray) acc).toList = acc.toList ++ l := by
    intro l
    induction l with
    | nil => intro acc _; simp
    | cons c l ih =>
      intro acc hl
      rw [List.foldl_cons, ih _ fun d hd => hl d (List.mem_cons_of_mem _ hd), clean_print c (clean_lt (hl c (List.mem_cons_self ..))).1 (hl c (List.mem_cons_self ..))]
      simp
  show (reprText x).cps.toList = _
  unfold reprText
  rw [hq, ← Array.foldl_toList]
  show ((x.cps.toList.foldl (fun out c => out ++ (Builtin.Str.reprChar 39 c).toArray) #[39]).push 39).toList = _
  rw [Array.toList_push, fold _ _ hc]
  simp
def rT (cl : Nat) : List D → List Nat
  | [] => [cl]
  | d :: ds => 44 :: 32 :: (shL d ++ rT cl ds)
theorem join_rT (cl : Nat) : ∀ (d : D) (ds : List D), (Str.join ", " (PyData.shownAll (pyDs (d :: ds)))).cps.toList ++ [cl] = shL d ++ rT cl ds
  | d, [] => by
    simp only [pyDs, PyData.shownAll, rT]
    rfl
  | d, e :: ds => by
    have ih := join_rT cl e ds
    simp only [pyDs, PyData.shownAll] at ih ⊢
    rw [show Str.join ", " (PyData.shown (pyD d) :: PyData.shown (pyD e) :: PyData.shownAll (pyDs ds)) = PyData.shown (pyD d) ++ ", " ++ Str.join ", " (PyData.shown (pyD e) :: PyData.shownAll (pyDs ds)) from rfl]
    rw [cps_app, cps_app, List.append_assoc, ih, rT]
    rw [show (Str.ofString ", ").cps.toList = [44, 32] from by decide +kernel]
    simp [shL, shD]
theorem shL_tup (ds : List D) : shL (.tup ds) = match ds with
    | [] => [40, 41]
    | [d] => 40 :: (shL d ++ [44, 41])
    | d :: e :: r => 40 :: (shL d ++ rT 41 (e :: r)) := by
  unfold shL shD
  rw [pyD, PyData.shown]
  unfold tupleText
  match ds with
  | [] => simp only [pyDs, PyData.shownAll]; decide +kernel
  | [d] =>
    simp only [pyDs, PyData.shownAll]
    rw [cps_app, cps_app]
    rw [show (Str.ofString "(").cps.toList = [40] from by decide +kernel]
    rw [show (Str.ofString (if [PyData.shown (pyD d)].length == 1 then ",)" else ")")).cps.toList = [44, 41] from by
      show (Str.ofString ",)").cps.toList = _
      decide +kernel]
    rfl
  | d :: e :: r =>
    have h := join_rT 41 d (e :: r)
    rw [cps_app, cps_app]
    rw [show (Str.ofString "(").cps.toList = [40] from by decide +kernel]
    rw [show (Str.ofString (if (PyData.shownAll (pyDs (d :: e :: r))).length == 1 then ",)" else ")")).cps.toList = [41] from by
      simp only [pyDs, PyData.shownAll]
      show (Str.ofString ")").cps.toList = _
      decide +kernel]
    rw [List.append_assoc, h]
    rfl
theorem text_rT : ∀ (ds : List D) (k : Nat) (acc : Str), (textFrom (k + 1) acc (PyData.shownAll (pyDs ds))).cps.toList ++ [93] = acc.cps.toList ++ rT 93 ds
  | [], k, acc => by simp only [pyDs, PyData.shownAll, textFrom, rT]
  | d :: ds, k, acc => by
    simp only [pyDs, PyData.shownAll, textFrom, rT]
    rw [text_rT ds (k + 1), cps_app, cps_app]
    rw [if_pos (by omega), show (Str.ofString ", ").cps.toList = [44, 32] from by decide +kernel]
    simp [shL, shD]
theorem shL_lst (ds : List D) : shL (.lst ds) = match ds with
    | [] => [91, 93]
    | d :: r => 91 :: (shL d ++ rT 93 r) := by
  unfold shL shD
  rw [pyD, PyData.shown]
  unfold listText
  match ds with
  | [] => simp only [pyDs, PyData.shownAll, textFrom]; decide +kernel
  | d :: r =>
    simp only [pyDs, PyData.shownAll, textFrom]
    rw [cps_app, show (Str.ofString "]").cps.toList = [93] from by decide +kernel, text_rT r 0, cps_app, cps_app]
    rw [if_neg (by omega), show (Str.ofString "").cps.toList = [] from by decide +kernel, show (Str.ofString "[").cps.toList = [91] from by decide +kernel]
    rfl
def Tm (u : List Nat) : Prop := u = [] ∨ ∃ c r, u = c :: r ∧ (c = 44 ∨ c = 41 ∨ c = 93)
theorem tm_rT (cl : Nat) (h : cl = 41 ∨ cl = 93) (ds : List D) (u : List Nat) : Tm (rT cl ds ++ u) := by
  cases ds with
  | nil => exact .inr ⟨cl, u, rfl, by omega⟩
  | cons d ds => exact .inr ⟨44, _, rfl, .inl rfl⟩
theorem cut_tm : ∀ {a b u v : List Nat}, (∀ c ∈ a, c ≠ 44 ∧ c ≠ 41 ∧ c ≠ 93) → (∀ c ∈ b, c ≠ 44 ∧ c ≠ 41 ∧ c ≠ 93) → Tm u → Tm v → a ++ u = b ++ v → a = b ∧ u = v
  | [], [], u, v, _, _, _, _, e => ⟨rfl, e⟩
  | [], y :: b, u, v, _, hb, hu, _, e => by
    have hy := hb y (List.mem_cons_self ..)
    rcases hu with rfl | ⟨c, r, rfl, hc⟩
    · cases e
    · rw [List.nil_append, List.cons_append] at e
      injection e with e1 e2
      omega
  | x :: a, [], u, v, ha, _, _, hv, e => by
    have hx := ha x (List.mem_cons_self ..)
    rcases hv with rfl | ⟨c, r, rfl, hc⟩
    · cases e
    · rw [List.nil_append, List.cons_append] at e
      injection e with e1 e2
      omega
  | x :: a, y :: b, u, v, ha, hb, hu, hv, e => by
    rw [List.cons_append, List.cons_append] at e
    injection e with e1 e2
    obtain ⟨h1, h2⟩ := cut_tm (fun c hc => ha c (List.mem_cons_of_mem _ hc)) (fun c hc => hb c (List.mem_cons_of_mem _ hc)) hu hv e2
    exact ⟨by rw [e1, h1], h2⟩
theorem int_chars {i : Int} {c : Nat} (h : c ∈ shL (.int i)) : c = 45 ∨ (48 ≤ c ∧ c ≤ 57) := by
  by_cases q : c = 45 ∨ (48 ≤ c ∧ c ≤ 57)
  · exact q
  · exact absurd h (PyProof.Rows.shown_int_free' (by omega) i)
theorem int_ne (i : Int) : shL (.int i) ≠ [] := by
  rw [shL_int]
  intro e
  have : i.repr.toList = [] := by simpa using e
  have e2 : i.repr = "" := String.toList_inj.mp (by rw [this]; rfl)
  cases i with
  | ofNat n => exact Nat.repr_ne_empty e2
  | negSucc n =>
    have h2 : "-" ++ Nat.repr (n + 1) = "" := e2
    have h3 := congrArg String.toList h2
    rw [String.toList_append] at h3
    cases h3
theorem int_inj {i j : Int} (h : shL (.int i) = shL (.int j)) : i = j := by
  rw [shL_int, shL_int] at h
  have h3 : i.repr.toList = j.repr.toList := by
    refine List.map_inj_right (f := Char.toNat) ?_ |>.mp h
    intro x y e
    exact Char.ext (UInt32.toNat_inj.mp e)
  exact Int.repr_inj.mp (String.toList_inj.mp h3)
def headC : D → Nat → Prop
  | .non, c => c = 78
  | .bl _, c => c = 84 ∨ c = 70
  | .int _, c => c = 45 ∨ (48 ≤ c ∧ c ≤ 57)
  | .str _, c => c = 39
  | .tup _, c => c = 40
  | .lst _, c => c = 91
  | _, _ => True
theorem head_of : ∀ d : D, cleanD d = true → ∃ c r, shL d = c :: r ∧ headC d c
  | .non, _ => ⟨_, _, shL_non, rfl⟩
  | .bl true, _ => ⟨_, _, (shL_bl true).trans rfl, .inl rfl⟩
  | .bl false, _ => ⟨_, _, (shL_bl false).trans rfl, .inr rfl⟩
  | .int i, _ => by
    cases e : shL (.int i) with
    | nil => exact absurd e (int_ne i)
    | cons c r => exact ⟨c, r, rfl, int_chars (i := i) (by rw [e]; exact List.mem_cons_self ..)⟩
  | .str x, h => ⟨_, _, shL_str (by simpa [cleanD] using h), rfl⟩
  | .tup [], _ => ⟨_, _, shL_tup [], rfl⟩
  | .tup [d], _ => ⟨_, _, shL_tup [d], rfl⟩
  | .tup (d :: e :: r), _ => ⟨_, _, shL_tup (d :: e :: r), rfl⟩
  | .lst [], _ => ⟨_, _, shL_lst [], rfl⟩
  | .lst (d :: r), _ => ⟨_, _, shL_lst (d :: r), rfl⟩
  | .byt _, h => by simp [cleanD] at h
  | .ref _, h => by simp [cleanD] at h
  | .scr _, h => by simp [cleanD] at h
  | .fn _ _ _ _, h => by simp [cleanD] at h
  | .exh _ _ _ _ _, h => by simp [cleanD] at h
theorem heads {d e : D} (hd : cleanD d = true) (he : cleanD e = true) {u v : List Nat} (h : shL d ++ u = shL e ++ v) : ∃ c, headC d c ∧ headC e c := by
  obtain ⟨c, r, e1, h1⟩ := head_of d hd
  obtain ⟨c', r', e2, h2⟩ := head_of e he
  rw [e1, e2, List.cons_append, List.cons_append] at h
  injection h with h3 h4
  subst h3
  exact ⟨c, h1, h2⟩
theorem cleanS_tm {x : Str} (h : cleanS x = true) : ∀ c ∈ x.cps.toList, c ≠ 39 := fun c hc => (clean_lt (List.all_eq_true.mp h c hc)).2
theorem cut_q : ∀ {a b u v : List Nat}, (∀ c ∈ a, c ≠ 39) → (∀ c ∈ b, c ≠ 39) → a ++ 39 :: u = b ++ 39 :: v → a = b ∧ u = v
  | [], [], u, v, _, _, e => ⟨rfl, by injection e⟩
  | [], y :: b, u, v, _, hb, e => by
    rw [List.nil_append, List.cons_append] at e
    injection e with e1 e2
    exact absurd e1.symm (hb y (List.mem_cons_self ..))
  | x :: a, [], u, v, ha, _, e => by
    rw [List.nil_append, List.cons_append] at e
    injection e with e1 e2
    exact absurd e1 (ha x (List.mem_cons_self ..))
  | x :: a, y :: b, u, v, ha, hb, e => by
    rw [List.cons_append, List.cons_append] at e
    injection e with e1 e2
    obtain ⟨h1, h2⟩ := cut_q (fun c hc => ha c (List.mem_cons_of_mem _ hc)) (fun c hc => hb c (List.mem_cons_of_mem _ hc)) e2
    exact ⟨by rw [e1, h1], h2⟩
theorem int_tm (i : Int) : ∀ c ∈ shL (.int i), c ≠ 44 ∧ c ≠ 41 ∧ c ≠ 93 := fun c hc => by have := int_chars hc; omega
mutual
theorem sh_inj : ∀ (d e : D), cleanD d = true → cleanD e = true → ∀ u v, Tm u → Tm v → shL d ++ u = shL e ++ v → d = e ∧ u = v
  | .non, e, hd, he, u, v, hu, hv, h => by
    obtain ⟨c, h1, h2⟩ := heads hd he h
    cases e <;> simp only [headC] at h1 h2 <;> first | omega | (simp [cleanD] at he; done) | exact ⟨rfl, List.append_cancel_left h⟩
  | .bl a, e, hd, he, u, v, hu, hv, h => by
    obtain ⟨c, h1, h2⟩ := heads hd he h
    cases e with
    | bl b => cases a <;> cases b <;> first | exact ⟨rfl, List.append_cancel_left h⟩ | (rw [shL_bl, shL_bl] at h; simp at h)
    | byt _ => simp [cleanD] at he
    | ref _ => simp [cleanD] at he
    | scr _ => simp [cleanD] at he
    | fn _ _ _ _ => simp [cleanD] at he
    | exh _ _ _ _ _ => simp [cleanD] at he
    | _ => simp only [headC] at h1 h2; omega
  | .int i, e, hd, he, u, v, hu, hv, h => by
    obtain ⟨c, h1, h2⟩ := heads hd he h
    cases e with
    | int j =>
      obtain ⟨h3, h4⟩ := cut_tm (int_tm i) (int_tm j) hu hv h
      exact ⟨by rw [int_inj h3], h4⟩
    | byt _ => simp [cleanD] at he
    | ref _ => simp [cleanD] at he
    | scr _ => simp [cleanD] at he
    | fn _ _ _ _ => simp [cleanD] at he
    | exh _ _ _ _ _ => simp [cleanD] at he
    | _ => simp only [headC] at h1 h2; omega
  | .str x, e, hd, he, u, v, hu, hv, h => by
    obtain ⟨c, h1, h2⟩ := heads hd he h
    cases e with
    | str y =>
      simp only [cleanD] at hd he
      rw [shL_str hd, shL_str he] at h
      simp only [List.cons_append, List.append_assoc, List.singleton_append] at h
      injection h with _ h
      obtain ⟨h3, h4⟩ := cut_q (cleanS_tm hd) (cleanS_tm he) h
      refine ⟨?_, h4⟩
      obtain ⟨xa⟩ := x
      obtain ⟨ya⟩ := y
      have : xa = ya := Array.toList_inj.mp h3
      rw [this]
    | byt _ => simp [cleanD] at he
    | ref _ => simp [cleanD] at he
    | scr _ => simp [cleanD] at he
    | fn _ _ _ _ => simp [cleanD] at he
    | exh _ _ _ _ _ => simp [cleanD] at he
    | _ => simp only [headC] at h1 h2; omega
  | .tup ds, e, hd, he, u, v, hu, hv, h => by
    obtain ⟨c, h1, h2⟩ := heads hd he h
    cases e with
    | tup es =>
      simp only [cleanD] at hd he
      match ds, es, hd, he, h with
      | [], [], _, _, h => exact ⟨rfl, List.append_cancel_left h⟩
      | [], [b], _, he, h =>
        rw [shL_tup, shL_tup] at h
        simp only [List.cons_append] at h
        injection h with _ h
        simp only [cleanDs, Bool.and_eq_true] at he
        obtain ⟨c, r, e1, h3⟩ := head_of b he.1
        rw [e1, List.cons_append, List.cons_append] at h
        injection h with h4 _
        subst h4
        cases b <;> simp only [headC] at h3 <;> first | omega | (simp [cleanD] at he; done)
      | [], b :: b2 :: es, _, he, h =>
        rw [shL_tup, shL_tup] at h
        simp only [List.cons_append] at h
        injection h with _ h
        simp only [cleanDs, Bool.and_eq_true] at he
        obtain ⟨c, r, e1, h3⟩ := head_of b he.1
        rw [e1, List.cons_append, List.cons_append] at h
        injection h with h4 _
        subst h4
        cases b <;> simp only [headC] at h3 <;> first | omega | (simp [cleanD] at he; done)
      | [a], [], hd, _, h =>
        rw [shL_tup, shL_tup] at h
        simp only [List.cons_append] at h
        injection h with _ h
        simp only [cleanDs, Bool.and_eq_true] at hd
        obtain ⟨c, r, e1, h3⟩ := head_of a hd.1
        rw [e1, List.cons_append, List.cons_append] at h
        injection h with h4 _
        subst h4
        cases a <;> simp only [headC] at h3 <;> first | omega | (simp [cleanD] at hd; done)
      | a :: a2 :: ds, [], hd, _, h =>
        rw [shL_tup, shL_tup] at h
        simp only [List.cons_append] at h
        injection h with _ h
        simp only [cleanDs, Bool.and_eq_true] at hd
        obtain ⟨c, r, e1, h3⟩ := head_of a hd.1
        rw [e1, List.cons_append, List.cons_append] at h
        injection h with h4 _
        subst h4
        cases a <;> simp only [headC] at h3 <;> first | omega | (simp [cleanD] at hd; done)
      | [a], [b], hd, he, h =>
        rw [shL_tup, shL_tup] at h
        simp only [List.cons_append, List.append_assoc] at h
        injection h with _ h
        simp only [cleanDs, Bool.and_eq_true] at hd he
        obtain ⟨h3, h4⟩ := sh_inj a b hd.1 he.1 _ _ (.inr ⟨44, _, rfl, .inl rfl⟩) (.inr ⟨44, _, rfl, .inl rfl⟩) h
        simp only [List.cons_append, List.nil_append] at h4
        injection h4 with _ h4
        injection h4 with _ h4
        exact ⟨by rw [h3], h4⟩
      | [a], b :: b2 :: es, hd, he, h =>
        rw [shL_tup, shL_tup] at h
        simp only [List.cons_append, List.append_assoc] at h
        injection h with _ h
        simp only [cleanDs, Bool.and_eq_true] at hd he
        obtain ⟨h3, h4⟩ := sh_inj a b hd.1 he.1 _ _ (.inr ⟨44, _, rfl, .inl rfl⟩) (tm_rT 41 (.inl rfl) _ _) h
        simp only [rT, List.cons_append, List.nil_append] at h4
        injection h4 with _ h4
        injection h4 with h5 _
        omega
      | a :: a2 :: ds, [b], hd, he, h =>
        rw [shL_tup, shL_tup] at h
        simp only [List.cons_append, List.append_assoc] at h
        injection h with _ h
        simp only [cleanDs, Bool.and_eq_true] at hd he
        obtain ⟨h3, h4⟩ := sh_inj a b hd.1 he.1 _ _ (tm_rT 41 (.inl rfl) _ _) (.inr ⟨44, _, rfl, .inl rfl⟩) h
        simp only [rT, List.cons_append, List.nil_append] at h4
        injection h4 with _ h4
        injection h4 with h5 _
        omega
      | a :: a2 :: ds, b :: b2 :: es, hd, he, h =>
        rw [shL_tup, shL_tup] at h
        simp only [List.cons_append, List.append_assoc] at h
        injection h with _ h
        rw [cleanDs, Bool.and_eq_true] at hd he
        obtain ⟨h3, h4⟩ := sh_inj a b hd.1 he.1 _ _ (tm_rT 41 (.inl rfl) _ _) (tm_rT 41 (.inl rfl) _ _) h
        obtain ⟨h5, h6⟩ := rT_inj 41 (.inl rfl) (a2 :: ds) (b2 :: es) hd.2 he.2 u v h4
        exact ⟨by rw [h3, h5], h6⟩
    | byt _ => simp [cleanD] at he
    | ref _ => simp [cleanD] at he
    | scr _ => simp [cleanD] at he
    | fn _ _ _ _ => simp [cleanD] at he
    | exh _ _ _ _ _ => simp [cleanD] at he
    | _ => simp only [headC] at h1 h2; omega
  | .lst ds, e, hd, he, u, v, hu, hv, h => by
    obtain ⟨c, h1, h2⟩ := heads hd he h
    cases e with
    | lst es =>
      simp only [cleanD] at hd he
      match ds, es, hd, he, h with
      | [], [], _, _, h => exact ⟨rfl, List.append_cancel_left h⟩
      | [], b :: es, _, he, h =>
        rw [shL_lst, shL_lst] at h
        simp only [List.cons_append] at h
        injection h with _ h
        simp only [cleanDs, Bool.and_eq_true] at he
        obtain ⟨c, r, e1, h3⟩ := head_of b he.1
        rw [e1, List.cons_append, List.cons_append] at h
        injection h with h4 _
        subst h4
        cases b <;> simp only [headC] at h3 <;> first | omega | (simp [cleanD] at he; done)
      | a :: ds, [], hd, _, h =>
        rw [shL_lst, shL_lst] at h
        simp only [List.cons_append] at h
        injection h with _ h
        simp only [cleanDs, Bool.and_eq_true] at hd
        obtain ⟨c, r, e1, h3⟩ := head_of a hd.1
        rw [e1, List.cons_append, List.cons_append] at h
        injection h with h4 _
        subst h4
        cases a <;> simp only [headC] at h3 <;> first | omega | (simp [cleanD] at hd; done)
      | a :: ds, b :: es, hd, he, h =>
        rw [shL_lst, shL_lst] at h
        simp only [List.cons_append, List.append_assoc] at h
        injection h with _ h
        rw [cleanDs, Bool.and_eq_true] at hd he
        obtain ⟨h3, h4⟩ := sh_inj a b hd.1 he.1 _ _ (tm_rT 93 (.inr rfl) _ _) (tm_rT 93 (.inr rfl) _ _) h
        obtain ⟨h5, h6⟩ := rT_inj 93 (.inr rfl) ds es hd.2 he.2 u v h4
        exact ⟨by rw [h3, h5], h6⟩
    | byt _ => simp [cleanD] at he
    | ref _ => simp [cleanD] at he
    | scr _ => simp [cleanD] at he
    | fn _ _ _ _ => simp [cleanD] at he
    | exh _ _ _ _ _ => simp [cleanD] at he
    | _ => simp only [headC] at h1 h2; omega
  | .byt _, _, hd, _, _, _, _, _, _ => by simp [cleanD] at hd
  | .ref _, _, hd, _, _, _, _, _, _ => by simp [cleanD] at hd
  | .scr _, _, hd, _, _, _, _, _, _ => by simp [cleanD] at hd
theorem rT_inj (cl : Nat) (hcl : cl = 41 ∨ cl = 93) : ∀ (ds es : List D), cleanDs ds = true → cleanDs es = true → ∀ u v, rT cl ds ++ u = rT cl es ++ v → ds = es ∧ u = v
  | [], [], _, _, u, v, h => ⟨rfl, List.append_cancel_left h⟩
  | [], b :: es, _, _, u, v, h => by
    simp only [rT, List.cons_append] at h
    injection h with h1 _
    omega
  | a :: ds, [], _, _, u, v, h => by
    simp only [rT, List.cons_append] at h
    injection h with h1 _
    omega
  | a :: ds, b :: es, hd, he, u, v, h => by
    simp only [rT, List.cons_append, List.append_assoc] at h
    injection h with _ h
    injection h with _ h
    rw [cleanDs, Bool.and_eq_true] at hd he
    obtain ⟨h3, h4⟩ := sh_inj a b hd.1 he.1 _ _ (tm_rT cl hcl _ _) (tm_rT cl hcl _ _) h
    obtain ⟨h5, h6⟩ := rT_inj cl hcl ds es hd.2 he.2 u v h4
    exact ⟨by rw [h3, h5], h6⟩
end
theorem shD_inj {d e : D} (hd : cleanD d = true) (he : cleanD e = true) (h : shD d = shD e) : d = e := by
  refine (sh_inj d e hd he [] [] (.inl rfl) (.inl rfl) ?_).1
  rw [List.append_nil, List.append_nil]
  unfold shL
  rw [h]
end Dl
namespace Dl
open PySem L2
theorem ifNDT {A B p : Prop} [Decidable p] (h : p) (b : B) : if (!decide p) = true then A else B := by rw [decide_eq_true h, if_neg (by decide)]; exact b
theorem ifNDF {A B p : Prop} [Decidable p] (h : ¬ p) (a : A) : if (!decide p) = true then A else B := by rw [decide_eq_false h, if_pos (by decide)]; exact a
theorem iNeg {te : DTE} {ρ : DSt} {G : GH} {Q : DK} (h : te ρ G fun d G1 => match d with
  | .int i => Q (.int (-i)) G1
  | _ => False) : dNeg te ρ G Q := h
theorem vw_of {G : GH} {d : D} (h : pureD d = true) : vw G d = d := by
  cases d with
  | ref a => simp [pureD] at h
  | _ => rfl
theorem beqStr (a b : Str) : (a == b) = decide (a = b) := by
  by_cases h : a = b
  · subst h; simp
  · rw [decide_eq_false h, beq_eq_false_iff_ne]; exact h
theorem cmp_i {f : Bool → Bool} {x y : D} {G : GH} {Q : DK} (hx : okD x) (hy : okD y) (h : Q (.bl (f (eqvD x y))) G) : rCmp f x y G Q := by
  unfold rCmp
  rw [vw_of hx.1, vw_of hy.1]
  cases x with
  | str a =>
    cases y with
    | str b => dsimp only; rw [eqvD, beqStr] at h; exact h
    | _ => exact ⟨hx, hy, h⟩
  | int a =>
    cases y with
    | int b => dsimp only; rw [eqvD] at h; exact h
    | _ => exact ⟨hx, hy, h⟩
  | _ => exact ⟨hx, hy, h⟩
theorem ne_i {x y : D} {G : GH} {Q : DK} (hx : okD x) (hy : okD y) (h : Q (.bl (!eqvD x y)) G) : rCmp not x y G Q := cmp_i hx hy h
theorem repr_a {x : D} {G : GH} {Q : DK} (e : ShwA x) (h : Q (.str (shD x)) G) : rReprA [x] G Q := by
  show ShwA (vw G x) ∧ Q (.str (shD (vw G x))) G
  rw [vw_of e.ok.1]; exact ⟨e, h⟩
theorem isN_T {G : GH} {Q : DK} (h : Q (.bl true) G) : rIsN id .non .non G Q := h
theorem isN_F {d : D} {G : GH} {Q : DK} (e : isNonD d = false) (h : Q (.bl false) G) : rIsN id d .non G Q := by
  show Q (.bl (id (isNonD d))) G
  rw [e]; exact h
theorem lcFt {α : Type} (xs : List α) (g h : α → D) (p : α → Bool) {wi : DTI} {ct : CT} {tt : DTT} {te : DTE} {ρ : DSt} {vs : List Nat} {G : GH} {Q : DK} (hw : ∀ P : List D → (GH → Prop) → GH → Prop, (∀ ok G1, (∀ G, ok G) → Grow G G1 → P (xs.map g) ok G1) → wi ρ G P)
    (hl : xs.length ≤ sizeLine) (hf : ∀ x ∈ xs, ∃ ρ2, bindC ct (g x) (wipeD ρ vs) = some ρ2 ∧ (∀ (G : GH) (K : Bool → GH → Prop), (∀ G', Grow G G' → K (p x) G') → tt ρ2 G K) ∧ (p x = true → ∀ (G : GH) (K : DK), (∀ G', Grow G G' → K (h x) G') → te ρ2 G K))
    (hq : ∀ G', Grow G G' → Q (.lst ((xs.filter p).map h)) G') : dLc wi ct tt te vs ρ G (frzK Q) := by
  unfold dLc
  refine hw _ ?_
  intro ok G1 hok g1 a ha
  have key : ∀ (rs : List α) (acc : List D) (G' : GH), (∀ x ∈ rs, x ∈ xs) → acc.length + rs.length ≤ xs.length → acc ++ (rs.filter p).map h = (xs.filter p).map h → Grow G1 G' → G' a = some (.lst acc) → dLcGo ok ct tt te (wipeD ρ vs) a (rs.map g) G' (frzK Q) := by
    intro rs
    induction rs with
    | nil =>
      intro acc G' _ _ e gg ea
      refine ⟨hok _, frzR ea ?_⟩
      have e2 : acc = (xs.filter p).map h := by simpa using e
      rw [e2]
      exact hq _ (g1.trans (Grow.drop ha gg))
    | cons r rs ih =>
      intro acc G' hm hl2 e gg ea
      rw [List.length_cons] at hl2
      obtain ⟨ρ2, e2, kt, ke⟩ := hf r (hm r (List.mem_cons_self ..))
      rw [List.map_cons]
      unfold dLcGo
      refine ⟨hok _, ?_⟩
      rw [e2]
      refine kt _ _ fun G3 g3 => ?_
      cases hp : p r with
      | false =>
        refine ifF ?_
        rw [List.filter_cons_of_neg (by rw [hp]; decide)] at e
        exact ih acc G3 (fun x hx => hm x (List.mem_cons_of_mem _ hx)) (by omega) e (gg.trans g3) (g3 _ _ ea)
      | true =>
        refine ifT ?_
        rw [List.filter_cons_of_pos hp] at e
        refine ke hp _ _ fun G4 g4 => ?_
        have ea4 := g4 _ _ (g3 _ _ ea)
        rw [ea4]
        refine ⟨by omega, ?_⟩
        refine ih (acc ++ [h r]) _ (fun x hx => hm x (List.mem_cons_of_mem _ hx)) (by rw [List.length_append, List.length_singleton]; omega) ?_ (Grow.upd2 ha ((gg.trans g3).trans g4)) updG_same
        rw [← e]; simp
  exact key xs [] _ (fun _ h => h) (by simp) (by simp) (Grow.upd ha) updG_same
end Dl
namespace Dl
open PySem L2
section
variable {X : Cx}
end
@[simp] def rIxA : DR2 := fun x y G Q => match x with
  | .str z => (match y with
    | .int i => z.length ≤ sizeLine ∧ (match atI z.cps.toList i with
      | some c => Q (.str ⟨#[c]⟩) G
      | none => False)
    | _ => False)
  | x => Dl.rIx x y G Q
section
variable {X : Cx}
end
theorem ixA_t {l : List D} {i : Int} {d : D} {G : GH} {Q : DK} (e : atI l i = some d) (h : Q d G) : rIxA (.tup l) (.int i) G Q := by
  show Dl.rIx (.tup l) (.int i) G Q
  exact rIx_i (x := .tup l) (ds := l) (by with_unfolding_all rfl) e h
theorem ixA_s {z : Str} {i : Int} {c : Nat} {G : GH} {Q : DK} (hz : z.length ≤ sizeLine) (e : atI z.cps.toList i = some c) (h : Q (.str ⟨#[c]⟩) G) : rIxA (.str z) (.int i) G Q := by
  refine ⟨hz, ?_⟩
  rw [e]; exact h
end Dl
namespace Dl
open PySem L2
end Dl
namespace Dl
open PySem PySem.Spec PyProof.Rows L2
section
variable {prog : Program} {w : World} {A : Around} {R : Result → Shared → Prop} {s : Shared} {env : Env} {elt ta ia tb ib : Expr} {sc : Scope} {pos : Pos} {it acc : Value}
end
end Dl
namespace Dl
open PySem PySem.Spec PyProof.Rows L2
section
variable {Y : Cx} {tg : Expr} {J : It} {fp : List Addr} {it : Addr} {tn : Nat → Heap → Prop} {pins : List (Addr × Obj)} {σ : L2.St} {H : Hp} {s : Shared} {g : TG}
end
section
variable {X : Cx}
end
end Dl
namespace Dl
open PySem PySem.Spec PyProof.Rows L2
section
variable {P : Program} {w : World} {A : Around} {E : Value → Shared → Prop} {s : Shared}
end
end Dl
namespace Dl
open PySem PySem.Spec PyProof.Rows L2
section
variable {P : Program} {w : World} {A : Around} {E : Value → Shared → Prop} {s : Shared} {a : Addr}
end
section
variable {X : Cx}
end
end Dl
namespace Dl
open PySem L2
section
variable {K : PySem.W.Frag} {w : World}
end
section
variable {X : Cx}
end
end Dl
namespace Dl
open PySem L2
section
variable {X : Cx}
end
section
variable {te ta tb : DTE} {ρ : DSt} {G : GH} {Q : DK}
end
end Dl
namespace K20
open PySem L2 Dl
end K20
namespace K24
open PySem L2 Dl
def r_is_tick : DTS :=
  (dSeq (dWhile (dTst (dOp (rInn id) (dOp rIxA (dVar 0) (dC (.int 0))) (dTup (dCons (dC (.str "left")) (dCons (dC (.str "right")) dNil)))))
  (dAsg (dOp rIxA (dVar 0) (dC (.int 1))) (gNm 0)))
  (dRet (dOp rEqv (dVar 0) (dC (.str "tick")))))
def r_law_is_tick (sp_law_is_tick : DSp) : DTS :=
  (dSeq (dIfS (dTru (dIsi "tuple" (dVar 0)))
  (dRet (dIf (dTst (dOp (rInn id) (dOp rIx (dVar 0) (dC (.int 0))) (dTup (dCons (dC (.str "left")) (dCons (dC (.str "right")) dNil))))) (dCall sp_law_is_tick (dCons (dOp rIx (dVar 0) (dC (.int 1))) dNil)) (dC (.int 0))))
  dNext)
  (dRet (dCB rIntC (dCons (dOp rEqv (dVar 0) (dC (.str "tick"))) dNil))))
end K24
namespace K18
open PySem L2 Dl
end K18
namespace K17
open PySem L2 Dl
def r_law_feed : DTS :=
  (dRet (dDisp [((dC (.str "cells")), (dFrz (dCB rLstC (dCons (dFrz (dSl (dVar 0) dNoP (dP (dC (.int 63))))) dNil)))), ((dC (.str "at")), (dC (.int 0))), ((dC (.str "left")), (dC (.int 0))), ((dC (.str "turn")), (dC (.int 0)))]))
def r_law_draw : DTS :=
  (dSeq (dAsg (dOp rAdd (dDGet (dVar 0) (dC (.str "turn"))) (dC (.int 1))) (gSb (dVar 0) (dC (.str "turn")) sDct))
  (dSeq (dIfS (dTst (dOp rEqv (dDGet (dVar 0) (dC (.str "cells"))) (dFrz (dLst dNil))))
  (dRet (dOp rMod (dCB rIntC (dCons (dOp rFdiv (dOp rMul (dDGet (dVar 0) (dC (.str "turn"))) (dC (.int 7))) (dC (.int 4))) dNil)) (dVar 1)))
  dNext)
  (dSeq (dIfS (dTst (dOp rGt (dDGet (dVar 0) (dC (.str "left"))) (dC (.int 0))))
  (dSeq (dAsg (dOp rMod (dCB rIntC (dCons (dDGet (dVar 0) (dC (.str "left"))) dNil)) (dVar 1)) (gNm 2))
  (dSeq (dAsg (dOp rFdiv (dDGet (dVar 0) (dC (.str "left"))) (dVar 1)) (gSb (dVar 0) (dC (.str "left")) sDct))
  (dRet (dVar 2))))
  dNext)
  (dSeq (dAsg (dDGet (dVar 0) (dC (.str "at"))) (gNm 3))
  (dSeq (dAsg (dOp rAdd (dVar 3) (dC (.int 1))) (gSb (dVar 0) (dC (.str "at")) sDct))
  (dSeq (dAsg (dOp rIx (dDGet (dVar 0) (dC (.str "cells"))) (dOp rMod (dCB rIntC (dCons (dVar 3) dNil)) (dCB rLen (dCons (dDGet (dVar 0) (dC (.str "cells"))) dNil)))) (gNm 4))
  (dSeq (dIfS (dAnd (dTst (dOp rGe (dVar 4) (dOp rPow (dC (.int 10)) (dC (.int 18))))) (dTst (dOp rLt (dVar 3) (dCB rLen (dCons (dDGet (dVar 0) (dC (.str "cells"))) dNil)))))
  (dSeq (dAsg (dOp rFdiv (dVar 4) (dVar 1)) (gSb (dVar 0) (dC (.str "left")) sDct))
  (dRet (dOp rMod (dCB rIntC (dCons (dVar 4) dNil)) (dVar 1))))
  dNext)
  (dSeq (dAsg (dOp rMod (dCB rIntC (dCons (dOp rAdd (dOp rAdd (dOp rMod (dCB rIntC (dCons (dVar 4) dNil)) (dC (.int 1000003097))) (dOp rMul (dC (.int 97381)) (dDGet (dVar 0) (dC (.str "turn"))))) (dC (.int 811))) dNil)) (dC (.int 2147483563))) (gNm 5))
  (dSeq (dAsg (dOp rMod (dCB rIntC (dCons (dOp rAdd (dOp rAdd (dOp rPow (dVar 5) (dC (.int 3))) (dOp rMul (dC (.int 7401211)) (dDGet (dVar 0) (dC (.str "turn"))))) (dC (.int 443))) dNil)) (dC (.int 2147483489))) (gNm 5))
  (dRet (dOp rMod (dCB rIntC (dCons (dOp rFdiv (dOp rMod (dCB rIntC (dCons (dOp rAdd (dOp rPow (dVar 5) (dC (.int 3))) (dOp rMul (dC (.int 397)) (dVar 5))) dNil)) (dC (.int 2147483399))) (dC (.int 32))) dNil)) (dVar 1))))))))))))
def r_law_tidy (sp_law_tidy : DSp) : DTS :=
  (dSeq (dIfS (dTst (dOp rEqv (dOp rIx (dVar 0) (dC (.int 0))) (dC (.str "beside"))))
  (dSeq (dPar 1 2 (dCons (dCall sp_law_tidy (dCons (dOp rIx (dVar 0) (dC (.int 1))) dNil)) (dCons (dCall sp_law_tidy (dCons (dOp rIx (dVar 0) (dC (.int 2))) dNil)) dNil)))
  (dRet (dIf (dAnd (dTst (dOp rEqv (dVar 1) (dTup (dCons (dC (.str "row")) (dCons (dTup dNil) dNil))))) (dTst (dOp rEqv (dVar 2) (dTup (dCons (dC (.str "row")) (dCons (dTup dNil) dNil)))))) (dTup (dCons (dC (.str "row")) (dCons (dTup dNil) dNil))) (dTup (dCons (dC (.str "beside")) (dCons (dVar 1) (dCons (dVar 2) dNil)))))))
  dNext)
  (dSeq (dIfS (dTst (dOp rNev (dOp rIx (dVar 0) (dC (.int 0))) (dC (.str "row"))))
  (dRet (dVar 0))
  dNext)
  (dSeq (dAsg (dLst dNil) (gNm 3))
  (dSeq (dFor (iSq (dOp rIx (dVar 0) (dC (.int 1)))) (gNm 4)
  (dSeq (dAsg (dCall sp_law_tidy (dCons (dVar 4) dNil)) (gNm 5))
  (dDrop (dMt mExtend (dVar 3) (dCons (dIf (dTst (dOp rEqv (dOp rIx (dVar 5) (dC (.int 0))) (dC (.str "row")))) (dFrz (dCB rLstC (dCons (dOp rIx (dVar 5) (dC (.int 1))) dNil))) (dFrz (dLst (dCons (dVar 5) dNil)))) dNil)))))
  (dRet (dIf (dTst (dOp rEqv (dCB rLen (dCons (dVar 3) dNil)) (dC (.int 1)))) (dOp rIx (dVar 3) (dC (.int 0))) (dTup (dCons (dC (.str "row")) (dCons (dCB rTupC (dCons (dVar 3) dNil)) dNil)))))))))
def r_law_next (sp_law_next : DSp) : DTS :=
  (dSeq (dAsg (dOp rIx (dVar 0) (dC (.int 0))) (gNm 1))
  (dSeq (dIfS (dTst (dOp rEqv (dVar 1) (dC (.str "tick"))))
  (dRet (dFrz (dLst (dCons (dC (.str "tick")) dNil))))
  dNext)
  (dSeq (dIfS (dTst (dOp rEqv (dVar 1) (dC (.str "row"))))
  (dRet (dIf (dTst (dOp rNev (dOp rIx (dVar 0) (dC (.int 1))) (dTup dNil))) (dCall sp_law_next (dCons (dOp rIx (dOp rIx (dVar 0) (dC (.int 1))) (dC (.int 0))) dNil)) (dFrz (dLst dNil))))
  dNext)
  (dSeq (dIfS (dAnd (dTst (dOp (rInn id) (dVar 1) (dTup (dCons (dC (.str "some")) (dCons (dC (.str "loop")) dNil))))) (dTru (dOp rIx (dVar 0) (dC (.int 3)))))
  (dRet (dFrz (dLc (iRg2 (dCons (dOp rIx (dVar 0) (dC (.int 1))) (dCons (dOp rAdd (dOp rIx (dVar 0) (dC (.int 2))) (dC (.int 1))) dNil))) (.one 2) dYes (dTup (dCons (dC (.str "many")) (dCons (dVar 2) dNil))) [2])))
  dNext)
  (dSeq (dIfS (dTst (dOp (rInn id) (dVar 1) (dTup (dCons (dC (.str "some")) (dCons (dC (.str "loop")) dNil)))))
  (dSeq (dAsg (dFrz (dOp rMul (dFrz (dLst (dCons (dDGet (dDisp [((dC (.str "some")), (dC (.str "tick"))), ((dC (.str "loop")), (dC (.str "more")))]) (dVar 1)) dNil))) (dCB rIntC (dCons (dOp rGt (dOp rIx (dVar 0) (dC (.int 2))) (dC (.int 0))) dNil)))) (gNm 3))
  (dRet (dFrz (dOp rAdd (dVar 3) (dFrz (dOp rMul (dFrz (dLst (dCons (dC (.str "end")) dNil))) (dCB rIntC (dCons (dOp rEqv (dOp rIx (dVar 0) (dC (.int 1))) (dC (.int 0))) dNil))))))))
  dNext)
  (dSeq (dIfS (dTst (dOp rEqv (dVar 1) (dC (.str "either"))))
  (dRet (dFrz (dLc (iRg1 (dCons (dCB rLen (dCons (dOp rIx (dVar 0) (dC (.int 1))) dNil)) dNil)) (.one 4) dYes (dTup (dCons (dC (.str "way")) (dCons (dVar 4) dNil))) [4])))
  dNext)
  (dRet (dFrz (dOp rAdd (dFrz (dLc (iSq (dCall sp_law_next (dCons (dOp rIx (dVar 0) (dC (.int 1))) dNil))) (.one 5) dYes (dTup (dCons (dC (.str "left")) (dCons (dVar 5) dNil))) [5])) (dFrz (dLc (iSq (dCall sp_law_next (dCons (dOp rIx (dVar 0) (dC (.int 2))) dNil))) (.one 5) dYes (dTup (dCons (dC (.str "right")) (dCons (dVar 5) dNil))) [5])))))))))))
def r_law_behind (sp_law_behind : DSp) : DTS :=
  (dSeq (dAsg (dOp rIx (dVar 0) (dC (.int 0))) (gNm 2))
  (dSeq (dIfS (dTst (dOp rEqv (dVar 2) (dC (.str "row"))))
  (dRet (dTup (dCons (dC (.str "row")) (dCons (dOp rAdd (dTup (dCons (dCall sp_law_behind (dCons (dOp rIx (dOp rIx (dVar 0) (dC (.int 1))) (dC (.int 0))) (dCons (dVar 1) dNil))) dNil)) (dSl (dOp rIx (dVar 0) (dC (.int 1))) (dP (dC (.int 1))) dNoP)) dNil))))
  dNext)
  (dSeq (dIfS (dTst (dOp rEqv (dVar 2) (dC (.str "beside"))))
  (dSeq (dIfS (dTst (dOp rEqv (dOp rIx (dVar 1) (dC (.int 0))) (dC (.str "left"))))
  (dRet (dTup (dCons (dC (.str "beside")) (dCons (dCall sp_law_behind (dCons (dOp rIx (dVar 0) (dC (.int 1))) (dCons (dOp rIx (dVar 1) (dC (.int 1))) dNil))) (dCons (dOp rIx (dVar 0) (dC (.int 2))) dNil)))))
  dNext)
  (dRet (dTup (dCons (dC (.str "beside")) (dCons (dOp rIx (dVar 0) (dC (.int 1))) (dCons (dCall sp_law_behind (dCons (dOp rIx (dVar 0) (dC (.int 2))) (dCons (dOp rIx (dVar 1) (dC (.int 1))) dNil))) dNil))))))
  dNext)
  (dSeq (dIfS (dTst (dOp rEqv (dVar 2) (dC (.str "either"))))
  (dRet (dOp rIx (dOp rIx (dVar 0) (dC (.int 1))) (dOp rIx (dVar 1) (dC (.int 1)))))
  dNext)
  (dSeq (dIfS (dTst (dOp rEqv (dVar 1) (dC (.str "end"))))
  (dRet (dTup (dCons (dC (.str "row")) (dCons (dTup dNil) dNil))))
  dNext)
  (dSeq (dIfS (dOr (dTst (dOp rEqv (dVar 2) (dC (.str "tick")))) (dAnd (dTst (dOp rEqv (dVar 2) (dC (.str "some")))) (dTru (dOp rIx (dVar 0) (dC (.int 3))))))
  (dSeq (dAsg (dIf (dTst (dOp rEqv (dVar 2) (dC (.str "tick")))) (dOp rSub (dOp rIx (dVar 0) (dC (.int 1))) (dC (.int 1))) (dOp rIx (dVar 1) (dC (.int 1)))) (gNm 3))
  (dRet (dIf (dTst (dOp rGt (dVar 3) (dC (.int 0)))) (dTup (dCons (dC (.str "tick")) (dCons (dVar 3) dNil))) (dTup (dCons (dC (.str "row")) (dCons (dTup dNil) dNil))))))
  dNext)
  (dSeq (dIfS (dTst (dOp rEqv (dVar 2) (dC (.str "some"))))
  (dRet (dTup (dCons (dC (.str "some")) (dCons (dCB rMax2 (dCons (dC (.int 0)) (dCons (dOp rSub (dOp rIx (dVar 0) (dC (.int 1))) (dC (.int 1))) dNil))) (dCons (dOp rSub (dOp rIx (dVar 0) (dC (.int 2))) (dC (.int 1))) (dCons (dC (.bl false)) dNil))))))
  dNext)
  (dSeq (dIfS (dTru (dOp rIx (dVar 0) (dC (.int 3))))
  (dRet (dTup (dCons (dC (.str "row")) (dCons (dOp rMul (dTup (dCons (dOp rIx (dVar 0) (dC (.int 4))) dNil)) (dOp rIx (dVar 1) (dC (.int 1)))) dNil))))
  dNext)
  (dRet (dTup (dCons (dC (.str "row")) (dCons (dTup (dCons (dOp rIx (dVar 0) (dC (.int 4))) (dCons (dTup (dCons (dC (.str "loop")) (dCons (dCB rMax2 (dCons (dC (.int 0)) (dCons (dOp rSub (dOp rIx (dVar 0) (dC (.int 1))) (dC (.int 1))) dNil))) (dCons (dOp rSub (dOp rIx (dVar 0) (dC (.int 2))) (dC (.int 1))) (dCons (dC (.bl false)) (dCons (dOp rIx (dVar 0) (dC (.int 4))) dNil)))))) dNil))) dNil))))))))))))
def r_law_after (sp_law_tidy : DSp) (sp_law_behind : DSp) : DTS :=
  (dRet (dCall sp_law_tidy (dCons (dCall sp_law_behind (dCons (dVar 0) (dCons (dVar 1) dNil))) dNil)))
def r_law_end (sp_law_end : DSp) : DTS :=
  (dSeq (dAsg (dOp rIx (dVar 0) (dC (.int 0))) (gNm 2))
  (dSeq (dIfS (dTst (dOp rEqv (dVar 2) (dC (.str "tick"))))
  (dRet (dOp rIx (dVar 0) (dC (.int 1))))
  dNext)
  (dSeq (dIfS (dTst (dOp (rInn id) (dVar 2) (dTup (dCons (dC (.str "some")) (dCons (dC (.str "loop")) dNil)))))
  (dSeq (dAsg (dIf (dTru (dVar 1)) (dOp rIx (dVar 0) (dC (.int 1))) (dOp rIx (dVar 0) (dC (.int 2)))) (gNm 3))
  (dRet (dIf (dTst (dOp rEqv (dVar 2) (dC (.str "some")))) (dVar 3) (dOp rMul (dVar 3) (dCall sp_law_end (dCons (dOp rIx (dVar 0) (dC (.int 4))) (dCons (dVar 1) dNil)))))))
  dNext)
  (dSeq (dIfS (dTst (dOp rEqv (dVar 2) (dC (.str "beside"))))
  (dRet (dOp rAdd (dCall sp_law_end (dCons (dOp rIx (dVar 0) (dC (.int 1))) (dCons (dVar 1) dNil))) (dCall sp_law_end (dCons (dOp rIx (dVar 0) (dC (.int 2))) (dCons (dVar 1) dNil)))))
  dNext)
  (dSeq (dAsg (dFrz (dLc (iSq (dOp rIx (dVar 0) (dC (.int 1)))) (.one 5) dYes (dCall sp_law_end (dCons (dVar 5) (dCons (dVar 1) dNil))) [5])) (gNm 4))
  (dSeq (dIfS (dTst (dOp rEqv (dVar 2) (dC (.str "row"))))
  (dRet (dCB rSumC (dCons (dVar 4) dNil)))
  dNext)
  (dRet (dIf (dTru (dVar 1)) (dCB rMinC (dCons (dVar 4) dNil)) (dCB rMaxC (dCons (dVar 4) dNil))))))))))
def r_law_rounds : DTS :=
  (dSeq (dAsg (dFrz (dLc (iSq (dTup (dCons (dC (.bl false)) (dCons (dC (.bl true)) dNil)))) (.one 1) dYes (dTup (dCons (dC (.str "row")) (dCons (dTup (dCons (dTup (dCons (dC (.str "tick")) (dCons (dC (.int 2)) dNil))) (dCons (dTup (dCons (dC (.str "loop")) (dCons (dC (.int 1)) (dCons (dC (.int 3)) (dCons (dVar 1) (dCons (dTup (dCons (dC (.str "tick")) (dCons (dC (.int 2)) dNil))) dNil)))))) dNil))) dNil))) [1])) (gNm 0))
  (dRet (dTup (dCons (dOp rIx (dVar 0) (dC (.int 0))) (dCons (dOp rIx (dVar 0) (dC (.int 1))) dNil)))))
def r_law_job (sp_law_draw : DSp) (sp_law_job : DSp) : DTS :=
  (dSeq (dAsg (dIf (dAnd (dTst (dOp rGt (dVar 1) (dC (.int 0)))) (dTst (dOp rGt (dOp rIx (dVar 2) (dC (.int 0))) (dC (.int 1))))) (dCall sp_law_draw (dCons (dVar 0) (dCons (dC (.int 9)) dNil))) (dCall sp_law_draw (dCons (dVar 0) (dCons (dC (.int 3)) dNil)))) (gNm 3))
  (dSeq (dPar 4 5 (dCons (dCall sp_law_draw (dCons (dVar 0) (dCons (dC (.int 2)) dNil))) (dCons (dC (.int 1)) dNil)))
  (dSeq (dIfS (dTst (dOp rEqv (dVar 3) (dC (.int 0))))
  (dRet (dTup (dCons (dC (.str "tick")) (dCons (dOp rAdd (dC (.int 1)) (dCall sp_law_draw (dCons (dVar 0) (dCons (dC (.int 3)) dNil)))) dNil))))
  dNext)
  (dSeq (dIfS (dTst (dOp rLt (dVar 3) (dC (.int 3))))
  (dRet (dTup (dCons (dC (.str "some")) (dCons (dVar 4) (dCons (dOp rAdd (dVar 4) (dCall sp_law_draw (dCons (dVar 0) (dCons (dC (.int 3)) dNil)))) (dCons (dOp rEqv (dVar 3) (dC (.int 1))) dNil))))))
  dNext)
  (dSeq (dIfS (dTst (dOp rLt (dVar 3) (dC (.int 5))))
  (dAsg (dCB rMin2 (dCons (dCall sp_law_draw (dCons (dVar 0) (dCons (dC (.int 4)) dNil))) (dCons (dOp rIx (dVar 2) (dC (.int 0))) dNil))) (gNm 5))
  (dIfS (dTst (dOp rGt (dVar 3) (dC (.int 6))))
  (dAsg (dIf (dOr (dTst (dOp rEqv (dVar 3) (dC (.int 7)))) (dNot (dTru (dOp rIx (dVar 2) (dC (.int 1)))))) (dOp rAdd (dC (.int 1)) (dCall sp_law_draw (dCons (dVar 0) (dCons (dC (.int 2)) dNil)))) (dC (.int 2))) (gNm 5))
  dNext))
  (dSeq (dAsg (dAndV (dOp rEqv (dVar 3) (dC (.int 8))) (dOp rIx (dVar 2) (dC (.int 1)))) (gNm 6))
  (dSeq (dAsg (dTup (dCons (dOp rSub (dOp rIx (dVar 2) (dC (.int 0))) (dVar 5)) (dCons (dAndV (dOp rIx (dVar 2) (dC (.int 1))) (dNotV (dVar 6))) dNil))) (gTp 2 (gsCons (gSb (dVar 2) (dC (.int 0)) sLst) (gsCons (gSb (dVar 2) (dC (.int 1)) sLst) gsNil))))
  (dSeq (dAsg (dFrz (dLc (iRg1 (dCons (dVar 5) dNil)) (.one 8) dYes (dCall sp_law_job (dCons (dVar 0) (dCons (dOp rSub (dVar 1) (dC (.int 1))) (dCons (dVar 2) dNil)))) [8])) (gNm 7))
  (dSeq (dIfS (dTst (dOp (rInn id) (dVar 3) (dTup (dCons (dC (.int 5)) (dCons (dC (.int 6)) dNil)))))
  (dRet (dTup (dCons (dC (.str "loop")) (dCons (dVar 4) (dCons (dOp rAdd (dVar 4) (dCall sp_law_draw (dCons (dVar 0) (dCons (dC (.int 3)) dNil)))) (dCons (dOp rEqv (dVar 3) (dC (.int 5))) (dCons (dOp rIx (dVar 7) (dC (.int 0))) dNil)))))))
  dNext)
  (dSeq (dIfS (dTru (dVar 6))
  (dRet (dTup (dCons (dC (.str "beside")) (dCons (dOp rIx (dVar 7) (dC (.int 0))) (dCons (dOp rIx (dVar 7) (dC (.int 1))) dNil)))))
  dNext)
  (dRet (dTup (dCons (dIf (dTst (dOp rLt (dVar 3) (dC (.int 5)))) (dC (.str "row")) (dC (.str "either"))) (dCons (dCB rTupC (dCons (dVar 7) dNil)) dNil))))))))))))))
def r_law_sides : DTS :=
  (dRet (dTup (dCons (dC (.str "beside")) (dCons (dTup (dCons (dC (.str "tick")) (dCons (dC (.int 1)) dNil))) (dCons (dTup (dCons (dC (.str "some")) (dCons (dC (.int 0)) (dCons (dC (.int 1)) (dCons (dC (.bl false)) dNil))))) dNil)))))
def r_law_great : DTS :=
  (dSeq (dAsg (dTup (dCons (dC (.str "row")) (dCons (dTup (dCons (dTup (dCons (dC (.str "tick")) (dCons (dC (.int 2)) dNil))) (dCons (dTup (dCons (dC (.str "some")) (dCons (dC (.int 0)) (dCons (dC (.int 2)) (dCons (dC (.bl false)) dNil))))) dNil))) dNil))) (gNm 0))
  (dSeq (dAsg (dTup (dCons (dC (.str "row")) (dCons (dTup (dCons (dTup (dCons (dC (.str "loop")) (dCons (dC (.int 1)) (dCons (dC (.int 3)) (dCons (dC (.bl false)) (dCons (dVar 0) dNil)))))) (dCons (dTup (dCons (dC (.str "either")) (dCons (dTup (dCons (dTup (dCons (dC (.str "tick")) (dCons (dC (.int 5)) dNil))) (dCons (dTup (dCons (dC (.str "some")) (dCons (dC (.int 0)) (dCons (dC (.int 2)) (dCons (dC (.bl true)) dNil))))) dNil))) dNil))) dNil))) dNil))) (gNm 1))
  (dSeq (dAsg (dTup (dCons (dC (.str "row")) (dCons (dTup (dCons (dTup (dCons (dC (.str "tick")) (dCons (dC (.int 5)) dNil))) (dCons (dTup (dCons (dC (.str "beside")) (dCons (dTup (dCons (dC (.str "some")) (dCons (dC (.int 1)) (dCons (dC (.int 3)) (dCons (dC (.bl true)) dNil))))) (dCons (dTup (dCons (dC (.str "loop")) (dCons (dC (.int 0)) (dCons (dC (.int 3)) (dCons (dC (.bl false)) (dCons (dTup (dCons (dC (.str "tick")) (dCons (dC (.int 2)) dNil))) dNil)))))) dNil)))) dNil))) dNil))) (gNm 2))
  (dRet (dTup (dCons (dVar 1) (dCons (dVar 2) (dCons (dTup (dCons (dC (.str "row")) (dCons (dTup (dCons (dTup (dCons (dC (.str "tick")) (dCons (dC (.int 12)) dNil))) (dCons (dTup (dCons (dC (.str "loop")) (dCons (dC (.int 3)) (dCons (dC (.int 12)) (dCons (dC (.bl false)) (dCons (dTup (dCons (dC (.str "tick")) (dCons (dC (.int 4)) dNil))) dNil)))))) dNil))) dNil))) dNil))))))))
def r_law_broad : DTS :=
  (dSeq (dAsg (dTup (dCons (dC (.str "either")) (dCons (dTup (dCons (dTup (dCons (dC (.str "tick")) (dCons (dC (.int 3)) dNil))) (dCons (dTup (dCons (dC (.str "tick")) (dCons (dC (.int 2)) dNil))) (dCons (dTup (dCons (dC (.str "tick")) (dCons (dC (.int 2)) dNil))) (dCons (dTup (dCons (dC (.str "tick")) (dCons (dC (.int 1)) dNil))) (dCons (dTup (dCons (dC (.str "row")) (dCons (dTup dNil) dNil))) dNil)))))) dNil))) (gNm 0))
  (dRet (dTup (dCons (dVar 0) (dCons (dTup (dCons (dC (.str "loop")) (dCons (dC (.int 0)) (dCons (dC (.int 12)) (dCons (dC (.bl true)) (dCons (dTup (dCons (dC (.str "tick")) (dCons (dC (.int 1)) dNil))) dNil)))))) (dCons (dTup (dCons (dC (.str "some")) (dCons (dC (.int 0)) (dCons (dC (.int 12)) (dCons (dC (.bl true)) dNil))))) (dCons (dTup (dCons (dC (.str "some")) (dCons (dC (.int 2)) (dCons (dC (.int 12)) (dCons (dC (.bl false)) dNil))))) dNil)))))))
end K17
namespace K17
open PySem L2 Dl
local macro_rules | `(tactic| walk_at "ds") => `(tactic| repeat' with_reducible first
  | refine iVar (by with_unfolding_all rfl) ?_
  | refine iCons ?_
  | refine iNil ?_
  | refine iC ?_
  | refine iOp ?_
  | refine iSeq ?_
  | refine iAsg ?_
  | refine iGNm ?_
  | refine iTup ?_
  | refine iFrz ?_
  | refine iTst ?_
  | refine iIfS ?_
  | refine iRet ?_
  | refine iCall ?_
  | refine iLst ?_
  | refine iNext ?_
  | refine iDrop ?_
  | refine iPar ?_
  | refine lenOk (by with_unfolding_all rfl) ?_
  | refine frzEnd ?_
  | refine iAnd ?_
  | refine iIf ?_
  | refine ifT ?_
  | refine ifF ?_
  | refine iCB ?_
  | refine iMt ?_
  | refine iFor ?_
  | refine iISq ?_
  | refine rIx_i (by with_unfolding_all rfl) (by with_unfolding_all rfl) ?_
  | refine rIx_i (by with_unfolding_all rfl) atI_0 ?_
  | refine eq_strT ?_
  | refine eq_strF (by with_unfolding_all rfl) ?_
  | refine ne_strT ?_
  | refine ne_strF (by with_unfolding_all rfl) ?_
  | refine eq_ii ?_
  | fail "stuck")
theorem eq_over {w : Wk} {G : GH} {Q : DK} (h1 : okD (toD w)) (h : Q (.bl (isOver w)) G) : rCmp id (toD w) (.tup [.str "row", .tup []]) G Q := by
  have e := eqv_over (w := w)
  have k : okD (.tup [.str "row", .tup []]) := okD_of (by decide +kernel) (by decide +kernel)
  obtain ⟨l, hl⟩ : ∃ l, toD w = .tup l := by cases w <;> exact ⟨_, by rw [toD]⟩
  rw [hl] at h1 e ⊢
  refine eq_tt h1 k ?_
  rw [e]; exact h
theorem flatW_app (a b : List Wk) : flatW (a ++ b) = flatW a ++ flatW b := by
  induction a with
  | nil => simp [flatW]
  | cons x xs ih => simp [flatW, ih]
theorem rowOr (w : Wk) : (∃ us, w = .row us) ∨ (inRow w = [w] ∧ ∃ (s : String) (l : List D), toD w = .tup (.str (Str.ofString s) :: l) ∧ (s == "row") = false) := by
  cases w with
  | row us => exact .inl ⟨us, rfl⟩
  | _ => exact .inr ⟨rfl, _, _, by rw [toD], by decide⟩
def RT (n : Nat) : List D → D → Prop := fun ds d => ∃ w, ds = [toD w] ∧ okW 999 w ∧ zW w ≤ 100000 ∧ dpW w ≤ n ∧ d = toD (tidyW w)
theorem rt_at {n : Nat} {w : Wk} (h1 : okW 999 w) (h2 : zW w ≤ 100000) (h3 : dpW w ≤ n) : RT n [toD w] (toD (tidyW w)) := ⟨w, rfl, h1, h2, h3, rfl⟩
theorem okT {w : Wk} (h1 : okW 999 w) (h3 : dpW w ≤ 60) : okD (toD w) := okD_of (sm_toD (by decide) w h1) (by rw [dep_toD]; omega)
def TInv (n : Nat) (G0 : GH) (wd : D) (ws : List Wk) (p : Addr) (rest : List D) (ρ : DSt) (G : GH) : Prop :=
  ∃ done rs x4 x5, rest = toDs rs ∧ ws = done ++ rs ∧ okWs 999 rs ∧ zWs ws ≤ 100000 ∧ dpWs rs ≤ n ∧ Grow G0 G ∧ G p = some (.lst (toDs (flatW done))) ∧ ρ = [some wd, none, none, some (.ref p), x4, x5]
end K17
namespace K17
open PySem L2 Dl
local macro_rules | `(tactic| walk_at "ds") => `(tactic| repeat' with_reducible first
  | refine iVar (by with_unfolding_all rfl) ?_
  | refine iCons ?_
  | refine iNil ?_
  | refine iC ?_
  | refine iOp ?_
  | refine iSeq ?_
  | refine iAsg ?_
  | refine iGNm ?_
  | refine iTup ?_
  | refine iFrz ?_
  | refine iTst ?_
  | refine iIfS ?_
  | refine iRet ?_
  | refine iCall ?_
  | refine iLst ?_
  | refine iNext ?_
  | refine iDrop ?_
  | refine iPar ?_
  | refine lenOk (by with_unfolding_all rfl) ?_
  | refine frzEnd ?_
  | refine lstC_t ?_
  | refine iAnd ?_
  | refine iIf ?_
  | refine ifT ?_
  | refine ifF ?_
  | refine iCB ?_
  | refine iMt ?_
  | refine iFor ?_
  | refine iISq ?_
  | refine rIx_i (by with_unfolding_all rfl) (by with_unfolding_all rfl) ?_
  | refine rIx_i (by with_unfolding_all rfl) atI_0 ?_
  | refine eq_strT ?_
  | refine eq_strF (by with_unfolding_all rfl) ?_
  | refine ne_strT ?_
  | refine ne_strF (by with_unfolding_all rfl) ?_
  | refine eq_ii ?_
  | fail "stuck")
theorem law_tidy_rd {n : Nat} (hn : n + 1 ≤ 60) : ∀ ds G Q E, pSp (RT (n + 1)) ds G Q E → r_law_tidy (pSp (RT n)) { nx := fun _ G' => Q .non G', rt := Q } (startD 6 ds) G := by
  rintro ds G Q E ⟨d, ⟨w, rfl, ho, hz, hd, rfl⟩, hq⟩
  unfold r_law_tidy
  cases w with
  | tick m => rw [toD]; walk_at "ds"; exact hq G (Grow.refl G)
  | sme a b t => rw [toD]; walk_at "ds"; exact hq G (Grow.refl G)
  | lop a b t w => rw [toD]; walk_at "ds"; exact hq G (Grow.refl G)
  | eit ws => rw [toD]; walk_at "ds"; exact hq G (Grow.refl G)
  | bes a b =>
    rw [okW] at ho
    rw [zW] at hz
    rw [dpW] at hd
    rw [toD]; walk_at "ds"
    refine ⟨_, rt_at ho.1 (by omega) (by omega), fun G1 g1 => ?_⟩
    walk_at "ds"
    refine ⟨_, rt_at ho.2 (by omega) (by omega), fun G2 g2 => ?_⟩
    have ha := okT (tidy_ok a ho.1) (by have := tidy_dp a; omega)
    have hb := okT (tidy_ok b ho.2) (by have := tidy_dp b; omega)
    walk_at "ds"
    refine eq_over ha ?_
    have e := hq G2 (g1.trans g2)
    rw [tidyW] at e
    cases h1 : isOver (tidyW a) with
    | false =>
      rw [h1] at e
      walk_at "ds"
      exact e
    | true =>
      walk_at "ds"
      refine eq_over hb ?_
      cases h2 : isOver (tidyW b) with
      | false =>
        rw [h1, h2] at e
        walk_at "ds"
        exact e
      | true =>
        rw [h1, h2] at e
        walk_at "ds"
        exact e
  | row ws =>
    rw [okW] at ho
    rw [zW] at hz
    rw [dpW] at hd
    rw [tidyW] at hq
    rw [toD]; walk_at "ds"
    intro p hp
    walk_at "ds"
    refine dForGo_of (I := TInv n G (toD (.row ws)) ws p) ?_ ?_ _ _ _ ⟨[], ws, none, none, rfl, rfl, ho, by omega, by omega, Grow.upd hp, by rw [updG_same]; rfl, rfl⟩
    · rintro ρ G1 ⟨done, rs, x4, x5, e1, e2, -, -, -, g1, ep, rfl⟩
      have e3 : rs = [] := by
        cases rs with
        | nil => rfl
        | cons => rw [toDs] at e1; cases e1
      subst e3
      rw [List.append_nil] at e2
      subst e2
      refine ⟨trivial, ?_⟩
      have e := hq G1 g1
      walk_at "ds"
      refine len_r ep ?_
      walk_at "ds"
      refine ifD (fun h => ?_) (fun h => ?_)
      · have hl : (flatW ws).length = 1 := by rw [toDs_len] at h; omega
        match hf : flatW ws, hl with
        | [w], _ =>
          rw [hf] at e ep
          walk_at "ds"
          refine rIx_i (by rw [sqOf, ep]) (by rw [toDs]; exact atI_0) ?_
          exact e
      · have hl : (flatW ws).length ≠ 1 := by rw [toDs_len] at h; omega
        walk_at "ds"
        refine tupC_r ep ?_
        walk_at "ds"
        rcases mkRow_cases (flatW ws) with ⟨w, h1, -⟩ | h1
        · rw [h1] at hl; exact absurd rfl hl
        · rw [h1, toD] at e; exact e
    · rintro x xs ρ G1 ⟨done, rs, x4, x5, e1, e2, ho, hz, hd, g1, ep, rfl⟩ K hK
      match rs, e1 with
      | r :: rs, e1 =>
        rw [toDs] at e1
        injection e1 with e1 e3
        subst e1 e3
        rw [okWs] at ho
        rw [dpWs] at hd
        have hzr := zWs_app done (r :: rs)
        rw [← e2, zWs] at hzr
        refine ⟨trivial, ?_⟩
        walk_at "ds"
        refine ⟨_, rt_at ho.1 (by omega) (by omega), fun G2 g2 => ?_⟩
        have ep2 := g2 _ _ ep
        walk_at "ds"
        refine lstP_i ep2 ?_
        have hfl : (flatW done).length + (inRow (tidyW r)).length ≤ sizeLine := by
          have h1 := len_zWs (flatW (done ++ [r]))
          have h2 := flat_z (done ++ [r])
          rw [flatW_app, List.length_append] at h1
          rw [flatW_app] at h2
          simp only [flatW, List.append_nil] at h1 h2
          simp only [zWs_app, zWs] at h1 h2
          have : sizeLine = 16777216 := by decide
          omega
        have fin : ∀ x, K [some (toD (Wk.row ws)), none, none, some (.ref p), some (toD r), x] (updG G2 p (.lst (toDs (flatW done) ++ toDs (inRow (tidyW r))))) := fun x => by
          refine hK _ _ ⟨done ++ [r], rs, _, _, rfl, by rw [e2]; simp, ho.2, hz, by omega, Grow.upd2 hp (g1.trans g2), ?_, rfl⟩
          rw [updG_same, flatW_app]
          simp only [flatW, List.append_nil, toDs_app]
        rcases rowOr (tidyW r) with ⟨us, hu⟩ | ⟨hi, s, l, hl, hs⟩
        · rw [hu] at fin hfl ⊢
          rw [toD]
          walk_at "ds"
          refine ext_i ep2 rfl (by rw [toDs_len, toDs_len]; exact hfl) ?_
          walk_at "ds"
          exact fin _
        · rw [hi] at fin hfl
          rw [toDs, toDs, hl] at fin
          rw [hl]
          walk_at "ds"
          refine eq_strF hs ?_
          walk_at "ds"
          refine ext_i ep2 rfl (by rw [toDs_len]; exact hfl) ?_
          walk_at "ds"
          exact fin _
theorem flat_fix : ∀ {l : List Wk}, (∀ x ∈ l, tidyW x = x ∧ inRow x = [x]) → flatW l = l
  | [], _ => by simp [flatW]
  | x :: xs, h => by
    have h1 := h x (List.mem_cons_self ..)
    have h2 := flat_fix fun y hy => h y (List.mem_cons_of_mem _ hy)
    rw [flatW, h1.1, h1.2, h2]; rfl
mutual
theorem tidy_idem : ∀ w : Wk, tidyW (tidyW w) = tidyW w ∧ ∀ x ∈ inRow (tidyW w), tidyW x = x ∧ inRow x = [x]
  | .tick _ => by simp [tidyW, inRow]
  | .sme _ _ _ => by simp [tidyW, inRow]
  | .lop _ _ _ _ => by simp [tidyW, inRow]
  | .eit _ => by simp [tidyW, inRow]
  | .row ws => by
    have h := flat_idem ws
    have e := flat_fix h
    rw [tidyW]
    rcases mkRow_cases (flatW ws) with ⟨w, h1, h2⟩ | h2
    · rw [h2]
      have h3 := h w (by rw [h1]; exact List.mem_singleton.mpr rfl)
      refine ⟨h3.1, fun x hx => ?_⟩
      rw [h3.2, List.mem_singleton] at hx
      subst hx
      exact h3
    · rw [h2]
      refine ⟨by rw [tidyW, e, h2], fun x hx => h x hx⟩
  | .bes a b => by
    have h1 := (tidy_idem a).1
    have h2 := (tidy_idem b).1
    have key : ∀ c, (isOver (tidyW a) && isOver (tidyW b)) = c → tidyW (.bes a b) = if c = true then .row [] else .bes (tidyW a) (tidyW b) := fun c e => by rw [tidyW, e]
    cases c : isOver (tidyW a) && isOver (tidyW b) with
    | true =>
      have k := key _ c
      rw [if_pos rfl] at k
      rw [k]
      refine ⟨by simp [tidyW, flatW, mkRow], fun x hx => ?_⟩
      simp [inRow] at hx
    | false =>
      have k := key _ c
      rw [if_neg (by decide)] at k
      rw [k]
      have k2 : tidyW (.bes (tidyW a) (tidyW b)) = .bes (tidyW a) (tidyW b) := by
        rw [tidyW, h1, h2, c, if_neg (by decide)]
      refine ⟨k2, fun x hx => ?_⟩
      simp only [inRow, List.mem_singleton] at hx
      subst hx
      exact ⟨k2, rfl⟩
theorem flat_idem : ∀ ws : List Wk, ∀ x ∈ flatW ws, tidyW x = x ∧ inRow x = [x]
  | [], x, hx => by simp [flatW] at hx
  | w :: ws, x, hx => by
    rw [flatW] at hx
    rcases List.mem_append.mp hx with q | q
    · exact (tidy_idem w).2 x q
    · exact flat_idem ws x q
end
theorem tidy_rowC (a : Wk) (ws : List Wk) : tidyW (.row (tidyW a :: ws)) = tidyW (.row (a :: ws)) := by rw [tidyW, tidyW, flatW, flatW, (tidy_idem a).1]
theorem tidy_tk (n : Int) : tidyW (tkW n) = tkW n := by unfold tkW; split <;> simp [tidyW, flatW, mkRow]
theorem tidy_over : tidyW (.row []) = .row [] := by simp [tidyW, flatW, mkRow]
end K17
namespace K17
open PySem L2 Dl
local macro_rules | `(tactic| walk_at "ds") => `(tactic| repeat' with_reducible first
  | refine iVar (by with_unfolding_all rfl) ?_
  | refine iCons ?_
  | refine iNil ?_
  | refine iC ?_
  | refine iOp ?_
  | refine iSeq ?_
  | refine iAsg ?_
  | refine iGNm ?_
  | refine iTup ?_
  | refine iFrz ?_
  | refine iTst ?_
  | refine iIfS ?_
  | refine iRet ?_
  | refine iCall ?_
  | refine iLst ?_
  | refine iNext ?_
  | refine lenOk (by with_unfolding_all rfl) ?_
  | refine frzEnd ?_
  | refine iTru ?_
  | refine truB ?_
  | refine iIf ?_
  | refine ifT ?_
  | refine ifF ?_
  | refine iCB ?_
  | refine eq_ii ?_
  | refine add_ii ?_
  | refine int0 ?_
  | refine max2_ii ?_
  | refine iIRg2 ?_
  | refine add_llb (by with_unfolding_all rfl) ?_
  | fail "stuck")
end K17
namespace K17
open PySem L2 Dl
local macro_rules | `(tactic| walk_at "ds") => `(tactic| repeat' with_reducible first
  | refine iVar (by with_unfolding_all rfl) ?_
  | refine iCons ?_
  | refine iNil ?_
  | refine iC ?_
  | refine iOp ?_
  | refine iSeq ?_
  | refine iAsg ?_
  | refine iGNm ?_
  | refine iTup ?_
  | refine iFrz ?_
  | refine iTst ?_
  | refine iRet ?_
  | refine iCall ?_
  | refine iLst ?_
  | refine lenOk (by with_unfolding_all rfl) ?_
  | refine frzEnd ?_
  | refine slT ?_
  | refine iIf ?_
  | refine ifT ?_
  | refine ifF ?_
  | refine iCB ?_
  | refine iSl ?_
  | refine iP ?_
  | refine iNoP ?_
  | refine iStar ?_
  | refine iMatch ?_
  | refine iISq ?_
  | refine rIx_i (by with_unfolding_all rfl) (by with_unfolding_all rfl) ?_
  | refine rIx_i (by with_unfolding_all rfl) atI_0 ?_
  | refine caT ?_
  | refine caF (by with_unfolding_all rfl) ?_
  | refine caN ?_
  | refine int0 ?_
  | refine tupC_l ?_
  | refine iIEnT ?_
  | fail "stuck")
theorem nx_size {w : Wk} (h : okW 999 w) (hz : zW w ≤ 10000) : (nxW w).length ≤ 5000000 := by
  have h1 := nx_len (B := 999) (by decide) w h
  have h2 : (999 + 1 : Int).toNat * zW w ≤ (999 + 1 : Int).toNat * 10000 := Nat.mul_le_mul_left _ hz
  have h3 : (999 + 1 : Int).toNat * 10000 = 10000000 := by decide
  omega
theorem sizeL : sizeLine = 16777216 := by decide
end K17
namespace K17
open PySem L2 Dl
local macro_rules | `(tactic| walk_at "ds") => `(tactic| repeat' with_reducible first
  | refine iVar (by with_unfolding_all rfl) ?_
  | refine iCons ?_
  | refine iNil ?_
  | refine iC ?_
  | refine iOp ?_
  | refine iSeq ?_
  | refine iAsg ?_
  | refine iGNm ?_
  | refine iTup ?_
  | refine iFrz ?_
  | refine iTst ?_
  | refine iIfS ?_
  | refine iRet ?_
  | refine iCall ?_
  | refine iLst ?_
  | refine iNext ?_
  | refine iDGet ?_
  | refine lenOk (by with_unfolding_all rfl) ?_
  | refine frzEnd ?_
  | refine iTru ?_
  | refine truB ?_
  | refine iAnd ?_
  | refine iIf ?_
  | refine ifT ?_
  | refine ifF ?_
  | refine iCB ?_
  | refine iISq ?_
  | refine rIx_i (by with_unfolding_all rfl) (by with_unfolding_all rfl) ?_
  | refine rIx_i (by with_unfolding_all rfl) atI_0 ?_
  | refine eq_strT ?_
  | refine eq_strF (by with_unfolding_all rfl) ?_
  | refine eq_ii ?_
  | refine add_ii ?_
  | refine int0 ?_
  | refine len_t ?_
  | refine intC_b ?_
  | refine keyP_s ?_
  | refine iIRg1 ?_
  | refine iIRg2 ?_
  | refine add_llb (by with_unfolding_all rfl) ?_
  | refine inn_T (by with_unfolding_all rfl) (by decide +kernel) (by decide +kernel) (by decide +kernel) ?_
  | refine inn_F (by with_unfolding_all rfl) (by decide +kernel) (by decide +kernel) (by decide +kernel) ?_
  | refine iPsC ?_
  | refine iPsN ?_
  | fail "stuck")
def nxD (w : Wk) : D := .lst ((nxW w).map sgD)
def RX (n : Nat) : List D → D → Prop := fun ds d => ∃ w, ds = [toD w] ∧ okW 999 w ∧ zW w ≤ 10000 ∧ dpW w ≤ n ∧ d = nxD w
theorem rx_at {n : Nat} {w : Wk} (h1 : okW 999 w) (h2 : zW w ≤ 10000) (h3 : dpW w ≤ n) : RX n [toD w] (nxD w) := ⟨w, rfl, h1, h2, h3, rfl⟩
theorem many_pure {a : Int} {ρ : DSt} {i : Nat} (h : (ρ.set 2 (some (.int (a + (i : Nat))))).length = 6) (h2 : sl (ρ.set 2 (some (.int (a + (i : Nat))))) 2 = some (.int (a + (i : Nat)))) :
    PureE (dTup (dCons (dC (.str "many")) (dCons (dVar 2) dNil))) (.one 2) ρ (.int (a + (i : Nat))) (sgD (.many (a + (i : Nat)))) :=
  ⟨_, rfl, fun G K hK => by
    refine iTup (iCons (iC (iCons (iVar h2 (iNil ?_)))))
    exact lenOk rfl (hK G (Grow.refl G))⟩
theorem law_next_rd {n : Nat} (hn : n + 1 ≤ 56) : ∀ ds G Q E, pSp (RX (n + 1)) ds G Q E → r_law_next (pSp (RX n)) { nx := fun _ G' => Q .non G', rt := Q } (startD 6 ds) G := by
  rintro ds G Q E ⟨d, ⟨w, rfl, ho, hz, hd, rfl⟩, hq⟩
  unfold r_law_next
  cases w with
  | tick m =>
    rw [toD]; walk_at "ds"
    have e := hq G (Grow.refl G)
    simp only [nxD, nxW, List.map_cons, List.map_nil, sgD] at e
    exact e
  | sme a b t =>
    rw [okW] at ho
    cases t with
    | true =>
      rw [toD]; walk_at "ds"
      refine lcF (List.range (b + 1 - a).toNat) (fun i => .int (a + (i : Nat))) (fun i => sgD (.many (a + (i : Nat)))) ?_ ?_ ?_ ?_
      · intro P hP
        walk_at "ds"
        exact ⟨by omega, hP _ _ (fun _ => trivial) (Grow.refl _)⟩
      · rw [List.length_range, sizeL]; omega
      · exact fun i hi => many_pure rfl rfl
      · intro G' g
        have e := hq G' g
        simp only [nxD, nxW, if_true, manyS, List.map_map] at e
        exact e
    | false =>
      rw [toD]; walk_at "ds"
      refine iDisp fun p hp => ?_
      walk_at "ds"
      refine dispEnd updG_same (by with_unfolding_all rfl) (by rfl) ?_
      walk_at "ds"
      refine dctP_i updG_same ?_
      walk_at "ds"
      refine getK_i (d := .str "tick") (by simp [getK, mergeD, putD]) ?_
      walk_at "ds"
      have e := fun o o' => hq _ (Grow.upd2 (o := o) hp (Grow.upd (o := o') hp))
      simp only [nxD, nxW, Bool.false_eq_true, if_false, List.map_append] at e
      by_cases hb : 0 < b
      · rw [show (if decide (0 < b) = true then (1 : Int) else 0) = 1 from by simp [hb]]
        rw [if_pos hb] at e
        refine mul_li (by decide) (by decide) (by decide) ?_
        walk_at "ds"
        by_cases ha : a = 0
        · rw [show (if decide (a = 0) = true then (1 : Int) else 0) = 1 from by simp [ha]]
          rw [if_pos ha] at e
          refine mul_li (by decide) (by decide) (by decide) ?_
          walk_at "ds"
          exact e _ _
        · rw [show (if decide (a = 0) = true then (1 : Int) else 0) = 0 from by simp [ha]]
          rw [if_neg ha] at e
          refine mul_li (by decide) (by decide) (by decide) ?_
          walk_at "ds"
          exact e _ _
      · rw [show (if decide (0 < b) = true then (1 : Int) else 0) = 0 from by simp [hb]]
        rw [if_neg hb] at e
        refine mul_li (by decide) (by decide) (by decide) ?_
        walk_at "ds"
        by_cases ha : a = 0
        · rw [show (if decide (a = 0) = true then (1 : Int) else 0) = 1 from by simp [ha]]
          rw [if_pos ha] at e
          refine mul_li (by decide) (by decide) (by decide) ?_
          walk_at "ds"
          exact e _ _
        · rw [show (if decide (a = 0) = true then (1 : Int) else 0) = 0 from by simp [ha]]
          rw [if_neg ha] at e
          refine mul_li (by decide) (by decide) (by decide) ?_
          walk_at "ds"
          exact e _ _
  | lop a b t w =>
    rw [okW] at ho
    cases t with
    | true =>
      rw [toD]; walk_at "ds"
      refine lcF (List.range (b + 1 - a).toNat) (fun i => .int (a + (i : Nat))) (fun i => sgD (.many (a + (i : Nat)))) ?_ ?_ ?_ ?_
      · intro P hP
        walk_at "ds"
        exact ⟨by omega, hP _ _ (fun _ => trivial) (Grow.refl _)⟩
      · rw [List.length_range, sizeL]; omega
      · exact fun i hi => many_pure rfl rfl
      · intro G' g
        have e := hq G' g
        simp only [nxD, nxW, if_true, manyS, List.map_map] at e
        exact e
    | false =>
      rw [toD]; walk_at "ds"
      refine iDisp fun p hp => ?_
      walk_at "ds"
      refine dispEnd updG_same (by with_unfolding_all rfl) (by rfl) ?_
      walk_at "ds"
      refine dctP_i updG_same ?_
      walk_at "ds"
      refine getK_i (d := .str "more") (by simp [getK, mergeD, putD]) ?_
      walk_at "ds"
      have e := fun o o' => hq _ (Grow.upd2 (o := o) hp (Grow.upd (o := o') hp))
      simp only [nxD, nxW, Bool.false_eq_true, if_false, List.map_append] at e
      by_cases hb : 0 < b
      · rw [show (if decide (0 < b) = true then (1 : Int) else 0) = 1 from by simp [hb]]
        rw [if_pos hb] at e
        refine mul_li (by decide) (by decide) (by decide) ?_
        walk_at "ds"
        by_cases ha : a = 0
        · rw [show (if decide (a = 0) = true then (1 : Int) else 0) = 1 from by simp [ha]]
          rw [if_pos ha] at e
          refine mul_li (by decide) (by decide) (by decide) ?_
          walk_at "ds"
          exact e _ _
        · rw [show (if decide (a = 0) = true then (1 : Int) else 0) = 0 from by simp [ha]]
          rw [if_neg ha] at e
          refine mul_li (by decide) (by decide) (by decide) ?_
          walk_at "ds"
          exact e _ _
      · rw [show (if decide (0 < b) = true then (1 : Int) else 0) = 0 from by simp [hb]]
        rw [if_neg hb] at e
        refine mul_li (by decide) (by decide) (by decide) ?_
        walk_at "ds"
        by_cases ha : a = 0
        · rw [show (if decide (a = 0) = true then (1 : Int) else 0) = 1 from by simp [ha]]
          rw [if_pos ha] at e
          refine mul_li (by decide) (by decide) (by decide) ?_
          walk_at "ds"
          exact e _ _
        · rw [show (if decide (a = 0) = true then (1 : Int) else 0) = 0 from by simp [ha]]
          rw [if_neg ha] at e
          refine mul_li (by decide) (by decide) (by decide) ?_
          walk_at "ds"
          exact e _ _
  | eit ws =>
    rw [zW] at hz
    have hl := len_zWs ws
    rw [toD]; walk_at "ds"
    refine lcF (List.range ws.length) (fun i => .int (0 + (i : Nat))) (fun i => sgD (.way i)) ?_ (by rw [sizeL, List.length_range]; omega) ?_ ?_
    · intro P hP
      walk_at "ds"
      refine ⟨by omega, by rw [toDs_len]; omega, ?_⟩
      rw [toDs_len]
      exact hP _ _ (fun _ => trivial) (Grow.refl _)
    · intro i hi
      refine ⟨_, rfl, fun G1 K hK => ?_⟩
      walk_at "ds"
      have e := hK G1 (Grow.refl _)
      rw [sgD] at e
      rw [Int.zero_add]
      exact e
    · intro G' g
      have e := hq G' g
      simp only [nxD, nxW, List.map_map] at e
      exact e
  | bes a b =>
    rw [okW] at ho
    rw [zW] at hz
    rw [dpW] at hd
    have la := nx_size ho.1 (by omega)
    have lb := nx_size ho.2 (by omega)
    rw [toD]; walk_at "ds"
    refine lcF (nxW a) sgD (fun s => sgD (.left s)) ?_ (by rw [sizeL]; omega) ?_ ?_
    · intro P hP
      walk_at "ds"
      refine ⟨_, rx_at ho.1 (by omega) (by omega), fun G1 g1 => ?_⟩
      exact hP _ _ (fun _ => trivial) g1
    · intro s hs
      refine ⟨_, rfl, fun G1 K hK => ?_⟩
      walk_at "ds"
      have e := hK G1 (Grow.refl _)
      rw [sgD] at e
      exact e
    intro G1 g1
    walk_at "ds"
    refine lcF (nxW b) sgD (fun s => sgD (.right s)) ?_ (by rw [sizeL]; omega) ?_ ?_
    · intro P hP
      walk_at "ds"
      refine ⟨_, rx_at ho.2 (by omega) (by omega), fun G1 g1 => ?_⟩
      exact hP _ _ (fun _ => trivial) g1
    · intro s hs
      refine ⟨_, rfl, fun G1 K hK => ?_⟩
      walk_at "ds"
      have e := hK G1 (Grow.refl _)
      rw [sgD] at e
      exact e
    intro G2 g2
    walk_at "ds"
    refine add_ll (by rw [List.length_map, List.length_map, sizeL]; omega) ?_
    walk_at "ds"
    have e := hq G2 (g1.trans g2)
    simp only [nxD, nxW, List.map_append, List.map_map] at e
    exact e
  | row ws =>
    rw [okW] at ho
    rw [zW] at hz
    rw [dpW] at hd
    cases ws with
    | nil =>
      simp only [toD, toDs]
      walk_at "ds"
      refine ne_tt (okD_of (by decide +kernel) (by decide +kernel)) (okD_of (by decide +kernel) (by decide +kernel)) ?_
      rw [show eqvD (.tup []) (.tup []) = true from by decide +kernel]
      refine ifF ?_
      walk_at "ds"
      have e := hq G (Grow.refl G)
      simp only [nxD, nxW, nxWs, List.map_nil] at e
      exact e
    | cons w ws =>
      rw [okWs] at ho
      rw [zWs] at hz
      rw [dpWs] at hd
      have hk : okD (.tup (toDs (w :: ws))) := okD_of (by rw [smD]; exact sm_toDs (B := 999) (by decide) _ (by rw [okWs]; exact ho)) (by rw [depD, dep_toDs, dpWs]; omega)
      rw [toD]
      walk_at "ds"
      refine ne_tt hk (okD_of (by decide +kernel) (by decide +kernel)) ?_
      rw [show eqvD (.tup (toDs (w :: ws))) (.tup []) = false from by simp [toDs, eqvD, eqvDs]]
      refine ifT ?_
      walk_at "ds"
      refine ⟨_, rx_at ho.1 (by omega) (by omega), fun G1 g1 => ?_⟩
      have e := hq G1 g1
      simp only [nxD, nxW, nxWs] at e
      exact e
end K17
namespace K17
open PySem L2 Dl
local macro_rules | `(tactic| walk_at "ds") => `(tactic| repeat' with_reducible first
  | refine iVar (by with_unfolding_all rfl) ?_
  | refine iCons ?_
  | refine iNil ?_
  | refine iC ?_
  | refine iOp ?_
  | refine iSeq ?_
  | refine iAsg ?_
  | refine iGNm ?_
  | refine iTup ?_
  | refine iFrz ?_
  | refine iTst ?_
  | refine iIfS ?_
  | refine iRet ?_
  | refine iCall ?_
  | refine iNext ?_
  | refine lenOk (by with_unfolding_all rfl) ?_
  | refine slT ?_
  | refine iTru ?_
  | refine truB ?_
  | refine iAnd ?_
  | refine iOr ?_
  | refine iIf ?_
  | refine ifT ?_
  | refine ifF ?_
  | refine iCB ?_
  | refine iSl ?_
  | refine iP ?_
  | refine iNoP ?_
  | refine iIsi ?_
  | refine iISq ?_
  | refine rIx_i (by with_unfolding_all rfl) (by with_unfolding_all rfl) ?_
  | refine rIx_i (by with_unfolding_all rfl) atI_0 ?_
  | refine eq_strT ?_
  | refine eq_strF (by with_unfolding_all rfl) ?_
  | refine add_ii ?_
  | refine int0 ?_
  | refine intC_b ?_
  | refine max2_ii ?_
  | refine inn_T (by with_unfolding_all rfl) (by decide +kernel) (by decide +kernel) (by decide +kernel) ?_
  | refine inn_F (by with_unfolding_all rfl) (by decide +kernel) (by decide +kernel) (by decide +kernel) ?_
  | refine isi_T (by with_unfolding_all rfl) (by decide +kernel) ?_
  | refine isi_F (by with_unfolding_all rfl) (by decide +kernel) ?_
  | fail "stuck")
def RH (n : Nat) : List D → D → Prop := fun ds d => ∃ w s, ds = [toD w, sgD s] ∧ okW 999 w ∧ zW w ≤ 10000 ∧ dpW w ≤ n ∧ s ∈ nxW w ∧ d = toD (behW w s)
theorem rh_at {n : Nat} {w : Wk} {s : Sg} (h1 : okW 999 w) (h2 : zW w ≤ 10000) (h3 : dpW w ≤ n) (h4 : s ∈ nxW w) : RH n [toD w, sgD s] (toD (behW w s)) := ⟨w, s, rfl, h1, h2, h3, h4, rfl⟩
theorem okEnd : okD (.str "end") := okD_of (by decide +kernel) (by decide +kernel)
theorem law_behind_rd {n : Nat} (hn : n + 1 ≤ 56) : ∀ ds G Q E, pSp (RH (n + 1)) ds G Q E → r_law_behind (pSp (RH n)) { nx := fun _ G' => Q .non G', rt := Q } (startD 4 ds) G := by
  rintro ds G Q E ⟨d, ⟨w, s, rfl, ho, hz, hd, hs, rfl⟩, hq⟩
  unfold r_law_behind
  have hok := nx_ok (B := 999) (by decide) w ho (by omega) s hs
  cases w with
  | tick m =>
    rw [nxW, List.mem_singleton] at hs
    subst hs
    rw [okW] at ho
    have e := hq G (Grow.refl G)
    simp only [behW, tkW] at e
    simp only [toD, sgD]; walk_at "ds"
    refine ifD (fun h => ?_) (fun h => ?_)
    · rw [if_pos h, toD] at e
      walk_at "ds"
      exact e
    · rw [if_neg h, toD, toDs] at e
      walk_at "ds"
      exact e
  | sme a b t =>
    rw [nxW] at hs
    rw [okW] at ho
    cases t with
    | true =>
      rw [if_pos rfl] at hs
      obtain ⟨m, rfl, h1, h2⟩ := manyS_mem hs
      have e := hq G (Grow.refl G)
      simp only [behW, tkW] at e
      have hk := okD_of hok.sm (by have := hok.dp; omega)
      simp only [toD, sgD] at hk ⊢; walk_at "ds"
      refine eq_ts hk okEnd ?_
      walk_at "ds"
      refine ifD (fun h => ?_) (fun h => ?_)
      · rw [if_pos h, toD] at e
        walk_at "ds"
        exact e
      · rw [if_neg h, toD, toDs] at e
        walk_at "ds"
        exact e
    | false =>
      rw [if_neg (by decide)] at hs
      have e := hq G (Grow.refl G)
      rcases List.mem_append.mp hs with q | q
      · split at q
        · rw [List.mem_singleton] at q; subst q
          simp only [behW] at e
          simp only [toD, sgD] at e ⊢; walk_at "ds"
          exact e
        · cases q
      · split at q
        · rw [List.mem_singleton] at q; subst q
          simp only [behW] at e
          simp only [toD, toDs, sgD] at e ⊢; walk_at "ds"
          exact e
        · cases q
  | lop a b t w =>
    rw [nxW] at hs
    rw [okW] at ho
    cases t with
    | true =>
      rw [if_pos rfl] at hs
      obtain ⟨m, rfl, h1, h2⟩ := manyS_mem hs
      have e := hq G (Grow.refl G)
      simp only [behW] at e
      have hk := okD_of hok.sm (by have := hok.dp; omega)
      simp only [toD, sgD] at hk e ⊢; walk_at "ds"
      refine eq_ts hk okEnd ?_
      walk_at "ds"
      refine mul_ti (by omega) (by omega) (by simp) ?_
      walk_at "ds"
      rw [rep_one, ← toDs_rep]
      exact e
    | false =>
      rw [if_neg (by decide)] at hs
      have e := hq G (Grow.refl G)
      rcases List.mem_append.mp hs with q | q
      · split at q
        · rw [List.mem_singleton] at q; subst q
          simp only [behW] at e
          simp only [toD, toDs, sgD] at e ⊢; walk_at "ds"
          exact e
        · cases q
      · split at q
        · rw [List.mem_singleton] at q; subst q
          simp only [behW] at e
          simp only [toD, toDs, sgD] at e ⊢; walk_at "ds"
          exact e
        · cases q
  | eit ws =>
    rw [nxW] at hs
    obtain ⟨i, hi, rfl⟩ := List.mem_map.mp hs
    rw [List.mem_range] at hi
    have e := hq G (Grow.refl G)
    simp only [behW] at e
    rw [show ws.getD i (.row []) = ws[i] from by simp [List.getD, hi]] at e
    simp only [toD, sgD]; walk_at "ds"
    refine rIx_i rfl (atI_nat (x := toD ws[i]) (by rw [toDs_map]; simp [hi])) ?_
    exact e
  | bes a b =>
    rw [okW] at ho
    rw [zW] at hz
    rw [dpW] at hd
    rw [nxW] at hs
    rcases List.mem_append.mp hs with q | q
    · obtain ⟨t, ht, rfl⟩ := List.mem_map.mp q
      simp only [behW] at hq
      simp only [toD, sgD] at hq ⊢; walk_at "ds"
      refine ⟨_, rh_at ho.1 (by omega) (by omega) ht, fun G1 g1 => ?_⟩
      walk_at "ds"
      exact hq G1 g1
    · obtain ⟨t, ht, rfl⟩ := List.mem_map.mp q
      simp only [behW] at hq
      simp only [toD, sgD] at hq ⊢; walk_at "ds"
      refine ⟨_, rh_at ho.2 (by omega) (by omega) ht, fun G1 g1 => ?_⟩
      walk_at "ds"
      exact hq G1 g1
  | row ws =>
    rw [okW] at ho
    rw [zW] at hz
    rw [dpW] at hd
    rw [nxW] at hs
    cases ws with
    | nil => simp [nxWs] at hs
    | cons w ws =>
      rw [okWs] at ho
      rw [zWs] at hz
      rw [dpWs] at hd
      rw [nxWs] at hs
      simp only [behW, behWs] at hq
      simp only [toD, toDs] at hq ⊢; walk_at "ds"
      refine ⟨_, rh_at ho.1 (by omega) (by omega) hs, fun G1 g1 => ?_⟩
      walk_at "ds"
      rw [cut1]
      refine add_tt (by rw [List.length_singleton, toDs_len, sizeL]; have := len_zWs ws; omega) ?_
      walk_at "ds"
      exact hq G1 g1
def RA : List D → D → Prop := fun ds d => ∃ w s, ds = [toD w, sgD s] ∧ okW 999 w ∧ zW w ≤ 10000 ∧ dpW w ≤ 50 ∧ s ∈ nxW w ∧ d = toD (tidyW (behW w s))
theorem law_after_rd : ∀ ds G Q E, pSp RA ds G Q E → r_law_after (pSp (RT 60)) (pSp (RH 56)) { nx := fun _ G' => Q .non G', rt := Q } (startD 2 ds) G := by
  rintro ds G Q E ⟨d, ⟨w, s, rfl, ho, hz, hd, hs, rfl⟩, hq⟩
  unfold r_law_after
  have hb := beh_ok (B := 999) w s ho hs
  walk_at "ds"
  refine ⟨_, rh_at ho hz (by omega) hs, fun G1 g1 => ?_⟩
  walk_at "ds"
  refine ⟨_, rt_at hb.ok (by have := hb.z; omega) (by have := hb.dp; omega), fun G2 g2 => ?_⟩
  exact hq G2 (g1.trans g2)
def spEnd (n : Nat) : DSp := fun ds G Q _ => ∃ w b, ds = [toD w, .bl b] ∧ okW 999 w ∧ zW w ≤ 10000 ∧ dpW w ≤ n ∧ ∀ (i : Int) G', Grow G G' → Q (.int i) G'
theorem law_end_rd {n : Nat} : ∀ ds G Q E, spEnd (n + 1) ds G Q E → r_law_end (spEnd n) { nx := fun _ G' => Q .non G', rt := Q } (startD 6 ds) G := by
  rintro ds G Q E ⟨w, b, rfl, ho, hz, hd, hq⟩
  unfold r_law_end
  have lst : ∀ ws : List Wk, okWs 999 ws → zWs ws ≤ 10000 → dpWs ws ≤ n → ∀ (ρ : DSt) (K : DK), ρ = [some (.tup [.str "row", .tup (toDs ws)]), some (.bl b), some (.str "row"), none, none, none] ∨ ρ = [some (.tup [.str "either", .tup (toDs ws)]), some (.bl b), some (.str "either"), none, none, none] →
      (∀ l G', (∀ y ∈ l, ∃ i : Int, y = .int i) → l.length = ws.length → Grow G G' → K (.lst l) G') →
      dLc (iSq (dOp rIx (dVar 0) (dC (.int 1)))) (.one 5) dYes (dCall (spEnd n) (dCons (dVar 5) (dCons (dVar 1) dNil))) [5] ρ G (frzK K) := by
    intro ws ho hz hd ρ K hρ hK
    refine lcP ws toD (fun y => ∃ i : Int, y = .int i) ?_ (by rw [sizeL]; have := len_zWs ws; omega) ?_ hK
    · intro P hP
      rcases hρ with rfl | rfl
      · walk_at "ds"; rw [← toDs_map] at hP; exact hP _ _ (fun _ => trivial) (Grow.refl _)
      · walk_at "ds"; rw [← toDs_map] at hP; exact hP _ _ (fun _ => trivial) (Grow.refl _)
    · intro w hw
      have h1 := zWs_mem hw
      have h2 := dpWs_mem hw
      refine ⟨_, rfl, fun G1 K hK => ?_⟩
      rcases hρ with rfl | rfl
      · walk_at "ds"; exact ⟨w, b, rfl, okWs_iff.mp ho w hw, by omega, by omega, fun i G' g => hK _ _ ⟨i, rfl⟩ g⟩
      · walk_at "ds"; exact ⟨w, b, rfl, okWs_iff.mp ho w hw, by omega, by omega, fun i G' g => hK _ _ ⟨i, rfl⟩ g⟩
  cases w with
  | tick m => rw [toD]; walk_at "ds"; exact hq _ _ (Grow.refl _)
  | sme x y t =>
    rw [toD]; walk_at "ds"
    cases b with
    | true => walk_at "ds"; exact hq _ _ (Grow.refl _)
    | false => walk_at "ds"; exact hq _ _ (Grow.refl _)
  | lop x y t w =>
    rw [okW] at ho
    rw [zW] at hz
    rw [dpW] at hd
    have hm : 1 * (zW w + 1) ≤ (y.toNat + 1) * (zW w + 1) := Nat.mul_le_mul (by omega) (by omega)
    rw [toD]; walk_at "ds"
    cases b with
    | true =>
      walk_at "ds"
      refine ⟨w, true, rfl, ho.2.2.2, by omega, by omega, fun i G1 g1 => ?_⟩
      refine mul_ii (.inl ⟨by omega, by omega⟩) ?_
      exact hq _ _ g1
    | false =>
      walk_at "ds"
      refine ⟨w, false, rfl, ho.2.2.2, by omega, by omega, fun i G1 g1 => ?_⟩
      refine mul_ii (.inl ⟨by omega, by omega⟩) ?_
      exact hq _ _ g1
  | bes x y =>
    rw [okW] at ho
    rw [zW] at hz
    rw [dpW] at hd
    rw [toD]; walk_at "ds"
    refine ⟨x, b, rfl, ho.1, by omega, by omega, fun i G1 g1 => ?_⟩
    walk_at "ds"
    refine ⟨y, b, rfl, ho.2, by omega, by omega, fun j G2 g2 => ?_⟩
    walk_at "ds"
    exact hq _ _ (g1.trans g2)
  | row ws =>
    rw [okW] at ho
    rw [zW] at hz
    rw [dpW] at hd
    rw [toD]; walk_at "ds"
    refine lst ws ho (by omega) (by omega) _ _ (.inl rfl) ?_
    intro l G1 hl hn g1
    walk_at "ds"
    obtain ⟨ns, e1, e2⟩ := intsD_all hl
    show intsP G1 (.lst l) _
    unfold intsP lsOf
    dsimp only
    rw [e1]
    exact hq _ _ g1
  | eit ws =>
    rw [okW] at ho
    rw [zW] at hz
    rw [dpW] at hd
    have hne : 0 < ws.length := List.length_pos_iff.mpr ho.1
    rw [toD]; walk_at "ds"
    refine lst ws ho.2 (by omega) (by omega) _ _ (.inr rfl) ?_
    intro l G1 hl hn g1
    obtain ⟨ns, e1, e2⟩ := intsD_all hl
    cases b with
    | true =>
      walk_at "ds"
      show intsP G1 (.lst l) _
      unfold intsP lsOf
      dsimp only
      rw [e1]
      exact ⟨by omega, fun m _ _ => hq _ _ g1⟩
    | false =>
      walk_at "ds"
      show intsP G1 (.lst l) _
      unfold intsP lsOf
      dsimp only
      rw [e1]
      exact ⟨by omega, fun m _ _ => hq _ _ g1⟩
end K17
namespace K17
open PySem L2 Dl
local macro_rules | `(tactic| walk_at "ds") => `(tactic| repeat' with_reducible first
  | refine iVar (by with_unfolding_all rfl) ?_
  | refine iCons ?_
  | refine iNil ?_
  | refine iC ?_
  | refine iOp ?_
  | refine iSeq ?_
  | refine iAsg ?_
  | refine iGNm ?_
  | refine iFrz ?_
  | refine iTst ?_
  | refine iIfS ?_
  | refine iRet ?_
  | refine iLst ?_
  | refine iNext ?_
  | refine iDGet ?_
  | refine iGSb ?_
  | refine lenOk (by with_unfolding_all rfl) ?_
  | refine frzEnd ?_
  | refine iAnd ?_
  | refine ifT ?_
  | refine ifF ?_
  | refine iCB ?_
  | refine rIx_i (by with_unfolding_all rfl) (by with_unfolding_all rfl) ?_
  | refine rIx_i (by with_unfolding_all rfl) atI_0 ?_
  | refine add_ii ?_
  | refine int0 ?_
  | refine len_l ?_
  | refine intC_i ?_
  | refine keyP_s ?_
  | fail "stuck")
def feedKv (cs : List Int) (at_ lf tn : Int) : List (Key × D) := [(.inr "cells", .lst (cs.map D.int)), (.inr "at", .int at_), (.inr "left", .int lf), (.inr "turn", .int tn)]
def FeedOk (G : GH) (a : Addr) : Prop := ∃ cs at_ lf tn, G a = some (.dct (feedKv cs at_ lf tn))
def KeepX (a : Addr) (G G' : GH) : Prop := ∀ b o, b ≠ a → G b = some o → G' b = some o
theorem KeepX.trans {a : Addr} {G G1 G2 : GH} (h : KeepX a G G1) (k : KeepX a G1 G2) : KeepX a G G2 := fun b o n e => k b o n (h b o n e)
theorem KeepX.upd {a : Addr} {G : GH} {o : DO} : KeepX a G (updG G a o) := fun b u n e => by rw [updG_ne n]; exact e
theorem FeedOk.grow {a : Addr} {G G' : GH} (h : FeedOk G a) (k : Grow G G') : FeedOk G' a := by
  obtain ⟨c, x, y, z, e⟩ := h
  exact ⟨c, x, y, z, k _ _ e⟩
theorem g_cells {cs : List Int} {x y z : Int} : getK (feedKv cs x y z) (.inr "cells") = some (.lst (cs.map D.int)) := by simp [getK, feedKv]
theorem g_at {cs : List Int} {x y z : Int} : getK (feedKv cs x y z) (.inr "at") = some (.int x) := by simp [getK, feedKv]
theorem g_left {cs : List Int} {x y z : Int} : getK (feedKv cs x y z) (.inr "left") = some (.int y) := by simp [getK, feedKv]
theorem g_turn {cs : List Int} {x y z : Int} : getK (feedKv cs x y z) (.inr "turn") = some (.int z) := by simp [getK, feedKv]
theorem p_at {cs : List Int} {x y z v : Int} : putD (feedKv cs x y z) (.inr "at") (.int v) = feedKv cs v y z := by simp [putD, feedKv]
theorem p_left {cs : List Int} {x y z v : Int} : putD (feedKv cs x y z) (.inr "left") (.int v) = feedKv cs x v z := by simp [putD, feedKv]
theorem p_turn {cs : List Int} {x y z v : Int} : putD (feedKv cs x y z) (.inr "turn") (.int v) = feedKv cs x y v := by simp [putD, feedKv]
theorem sDct_i {a : Addr} {kvs : List (Key × D)} {x : Str} {d : D} {G : GH} {Q : GH → Prop} (e : G a = some (.dct kvs)) (z : kvs.length < sizeLine) (h : Q (updG G a (.dct (putD kvs (.inr x) d)))) : sDct (.ref a) (.str x) d G Q := dctP_i e ⟨z, h⟩
theorem cell_at {cs : List Int} (h : cs ≠ []) (k : Int) : ∃ c : Int, atI (cs.map D.int) (k % (cs.length : Int)) = some (.int c) := by
  have hl : 0 < cs.length := List.length_pos_iff.mpr h
  have h1 := Int.emod_nonneg k (show (cs.length : Int) ≠ 0 by omega)
  have h2 := Int.emod_lt_of_pos k (show (0 : Int) < cs.length by omega)
  obtain ⟨j, hj⟩ : ∃ j : Nat, k % (cs.length : Int) = j := ⟨(k % (cs.length : Int)).toNat, by omega⟩
  rw [hj]
  have hj2 : j < cs.length := by omega
  exact ⟨cs[j], Dl.atI_nat (by simp [hj2])⟩
theorem okCells (cs : List Int) : okD (.lst (cs.map D.int)) := by
  constructor
  · rw [pureD]
    induction cs with
    | nil => simp [pureDs]
    | cons x xs ih => simp [pureDs, pureD, ih]
  · rw [depD]
    have : depDs (cs.map D.int) ≤ 0 := depDs_le (by intro d hd; obtain ⟨i, -, rfl⟩ := List.mem_map.mp hd; simp [depD])
    omega
def spDraw : DSp := fun ds G Q _ => ∃ a m, ds = [.ref a, .int m] ∧ 0 < m ∧ m < 1073741824 ∧ FeedOk G a ∧ ∀ (r : Int) G', 0 ≤ r → r < m → FeedOk G' a → KeepX a G G' → Q (.int r) G'
theorem law_draw_rd : ∀ ds G Q E, spDraw ds G Q E → r_law_draw { nx := fun _ G' => Q .non G', rt := Q } (startD 6 ds) G := by
  rintro ds G Q E ⟨a, m, rfl, hm, hm2, ⟨cs, x, y, z, e⟩, hq⟩
  unfold r_law_draw
  have fin : ∀ (v : Int) (c : List Int) (x y z : Int), KeepX a G (updG G a (.dct (feedKv c x y z))) := fun _ _ _ _ _ => KeepX.upd
  have go : ∀ (v : Int) (c : List Int) (x y z : Int), Q (.int (v % m)) (updG G a (.dct (feedKv c x y z))) := fun v c x y z =>
    hq _ _ (Int.emod_nonneg _ (by omega)) (Int.emod_lt_of_pos _ hm) ⟨c, x, y, z, updG_same⟩ KeepX.upd
  walk_at "ds"
  refine dctP_i e ?_
  walk_at "ds"
  refine getK_i g_turn ?_
  walk_at "ds"
  refine sDct_i e (by show 4 < sizeLine; decide) ?_
  rw [p_turn]
  walk_at "ds"
  refine dctP_i updG_same ?_
  walk_at "ds"
  refine getK_i g_cells ?_
  walk_at "ds"
  refine eq_ll (okCells cs) (okCells []) ?_
  cases cs with
  | nil =>
    rw [show eqvD (.lst (([] : List Int).map D.int)) (.lst []) = true from by decide +kernel]
    refine ifT ?_
    walk_at "ds"
    refine dctP_i updG_same ?_
    walk_at "ds"
    refine getK_i g_turn ?_
    walk_at "ds"
    refine mul_ii (.inr ⟨by decide, by decide⟩) ?_
    walk_at "ds"
    refine int2 ⟨by decide, by decide⟩ ?_
    walk_at "ds"
    refine int2 hm ?_
    exact go _ _ _ _ _
  | cons c0 cs0 =>
    have hne : c0 :: cs0 ≠ [] := by simp
    generalize c0 :: cs0 = cs at hne e
    rw [show eqvD (.lst (cs.map D.int)) (.lst []) = false from by cases cs with
      | nil => exact absurd rfl hne
      | cons => simp [eqvD, eqvDs]]
    refine ifF ?_
    walk_at "ds"
    refine dctP_i updG_same ?_
    walk_at "ds"
    refine getK_i g_left ?_
    walk_at "ds"
    refine ifD (fun h => ?_) (fun h => ?_)
    · walk_at "ds"
      refine dctP_i updG_same ?_
      walk_at "ds"
      refine getK_i g_left ?_
      walk_at "ds"
      refine int2 hm ?_
      walk_at "ds"
      refine dctP_i updG_same ?_
      walk_at "ds"
      refine getK_i g_left ?_
      walk_at "ds"
      refine int2 ⟨hm, hm2⟩ ?_
      walk_at "ds"
      refine sDct_i updG_same (by show 4 < sizeLine; decide) ?_
      rw [p_left, updG_updG]
      walk_at "ds"
      exact go _ _ _ _ _
    · walk_at "ds"
      refine dctP_i updG_same ?_
      walk_at "ds"
      refine getK_i g_at ?_
      walk_at "ds"
      refine sDct_i updG_same (by show 4 < sizeLine; decide) ?_
      rw [p_at, updG_updG]
      walk_at "ds"
      refine dctP_i updG_same ?_
      walk_at "ds"
      refine getK_i g_cells ?_
      walk_at "ds"
      refine dctP_i updG_same ?_
      walk_at "ds"
      refine getK_i g_cells ?_
      walk_at "ds"
      have hl : 0 < cs.length := List.length_pos_iff.mpr hne
      refine int2 (by rw [List.length_map]; omega) ?_
      rw [List.length_map]
      obtain ⟨c, hc⟩ := cell_at hne x
      refine rIx_i rfl hc ?_
      walk_at "ds"
      refine int2 ⟨by decide, by decide, by decide⟩ ?_
      walk_at "ds"
      have mix : ∀ K : Prop, K → K := fun _ h => h
      have tail : ∀ (ρ : DSt) (G1 : GH), ρ = [some (.ref a), some (.int m), none, some (.int x), some (.int c), none] → G1 = updG G a (.dct (feedKv cs (x + 1) y (z + 1))) →
          (dSeq (dAsg (dOp rMod (dCB rIntC (dCons (dOp rAdd (dOp rAdd (dOp rMod (dCB rIntC (dCons (dVar 4) dNil)) (dC (.int 1000003097))) (dOp rMul (dC (.int 97381)) (dDGet (dVar 0) (dC (.str "turn"))))) (dC (.int 811))) dNil)) (dC (.int 2147483563))) (gNm 5)) (dSeq (dAsg (dOp rMod (dCB rIntC (dCons (dOp rAdd (dOp rAdd (dOp rPow (dVar 5) (dC (.int 3))) (dOp rMul (dC (.int 7401211)) (dDGet (dVar 0) (dC (.str "turn"))))) (dC (.int 443))) dNil)) (dC (.int 2147483489))) (gNm 5)) (dRet (dOp rMod (dCB rIntC (dCons (dOp rFdiv (dOp rMod (dCB rIntC (dCons (dOp rAdd (dOp rPow (dVar 5) (dC (.int 3))) (dOp rMul (dC (.int 397)) (dVar 5))) dNil)) (dC (.int 2147483399))) (dC (.int 32))) dNil)) (dVar 1))))) { nx := fun _ G' => Q .non G', rt := Q } ρ G1 := by
        rintro ρ G1 rfl rfl
        walk_at "ds"
        refine int2 (by decide) ?_
        walk_at "ds"
        refine dctP_i updG_same ?_
        walk_at "ds"
        refine getK_i g_turn ?_
        walk_at "ds"
        refine mul_ii (.inl ⟨by decide, by decide⟩) ?_
        walk_at "ds"
        refine int2 (by decide) ?_
        have pw : ∀ (u k : Int), 0 < k → k < 4294967296 → CPow (u % k) 3 := fun u k h1 h2 => by
          have h3 := Int.emod_nonneg u (show k ≠ 0 by omega)
          have h4 := Int.emod_lt_of_pos u h1
          refine ⟨by decide, by decide, ?_⟩
          have : (2 : Nat) ^ 64 = 18446744073709551616 := by decide
          omega
        walk_at "ds"
        refine int2 (pw _ _ (by decide) (by decide)) ?_
        walk_at "ds"
        refine dctP_i updG_same ?_
        walk_at "ds"
        refine getK_i g_turn ?_
        walk_at "ds"
        refine mul_ii (.inl ⟨by decide, by decide⟩) ?_
        walk_at "ds"
        refine int2 (by decide) ?_
        walk_at "ds"
        refine int2 (pw _ _ (by decide) (by decide)) ?_
        walk_at "ds"
        refine mul_ii (.inl ⟨by decide, by decide⟩) ?_
        walk_at "ds"
        refine int2 (by decide) ?_
        walk_at "ds"
        refine int2 ⟨by decide, by decide⟩ ?_
        walk_at "ds"
        refine int2 hm ?_
        exact go _ _ _ _ _
      refine ifD (fun h => ?_) (fun h => ?_)
      · walk_at "ds"
        refine dctP_i updG_same ?_
        walk_at "ds"
        refine getK_i g_cells ?_
        walk_at "ds"
        refine ifD (fun h => ?_) (fun h => ?_)
        · walk_at "ds"
          refine int2 ⟨hm, hm2⟩ ?_
          walk_at "ds"
          refine sDct_i updG_same (by show 4 < sizeLine; decide) ?_
          rw [p_left, updG_updG]
          walk_at "ds"
          refine int2 hm ?_
          exact go _ _ _ _ _
        · refine iNext ?_
          exact tail _ _ rfl rfl
      · refine ifF ?_
        refine iNext ?_
        exact tail _ _ rfl rfl
end K17
namespace K17
open PySem L2 Dl
local macro_rules | `(tactic| walk_at "ds") => `(tactic| repeat' with_reducible first
  | refine iVar (by with_unfolding_all rfl) ?_
  | refine iCons ?_
  | refine iNil ?_
  | refine iC ?_
  | refine iOp ?_
  | refine iSeq ?_
  | refine iAsg ?_
  | refine iGNm ?_
  | refine iTup ?_
  | refine iFrz ?_
  | refine iRet ?_
  | refine iCall ?_
  | refine lenOk (by with_unfolding_all rfl) ?_
  | refine frzEnd ?_
  | refine lstC_l ?_
  | refine iCB ?_
  | refine iSl ?_
  | refine iP ?_
  | refine iNoP ?_
  | refine iISq ?_
  | refine rIx_i (by with_unfolding_all rfl) (by with_unfolding_all rfl) ?_
  | refine rIx_i (by with_unfolding_all rfl) atI_0 ?_
  | refine len_l ?_
  | refine iPsC ?_
  | refine iPsN ?_
  | fail "stuck")
def spFeed : DSp := fun ds G Q _ => ∃ ns, ds = [.scr ns] ∧ ∀ p G', Grow G G' → FeedOk G' p → G p = none → Q (.ref p) G'
theorem law_feed_rd : ∀ ds G Q E, spFeed ds G Q E → r_law_feed { nx := fun _ G' => Q .non G', rt := Q } (startD 1 ds) G := by
  rintro ds G Q E ⟨ns, rfl, hq⟩
  unfold r_law_feed
  walk_at "ds"
  refine iDisp fun p hp => ?_
  walk_at "ds"
  refine slS ?_
  walk_at "ds"
  refine dispEnd updG_same (by with_unfolding_all rfl) (by rfl) ?_
  refine hq p _ (Grow.upd2 hp (Grow.upd hp)) ⟨(ns.drop 0).take (min 63 ns.length), 0, 0, 0, ?_⟩ hp
  rw [updG_same]
  simp [mergeD, putD, feedKv, cutD, HT.sIx, List.map_take]
def wSides : Wk := .bes (.tick 1) (.sme 0 1 false)
def wRnd (t : Bool) : Wk := .row [.tick 2, .lop 1 3 t (.tick 2)]
def wG1 : Wk := .row [.lop 1 3 false (.row [.tick 2, .sme 0 2 false]), .eit [.tick 5, .sme 0 2 true]]
def wG2 : Wk := .row [.tick 5, .bes (.sme 1 3 true) (.lop 0 3 false (.tick 2))]
def wG3 : Wk := .row [.tick 12, .lop 3 12 false (.tick 4)]
def wB1 : Wk := .eit [.tick 3, .tick 2, .tick 2, .tick 1, .row []]
def wB2 : Wk := .lop 0 12 true (.tick 1)
def wB3 : Wk := .sme 0 12 true
def wB4 : Wk := .sme 2 12 false
def RC (v : D) : List D → D → Prop := fun ds d => ds = [] ∧ d = v
theorem law_sides_rd : ∀ ds G Q E, pSp (RC (toD wSides)) ds G Q E → r_law_sides { nx := fun _ G' => Q .non G', rt := Q } (startD 0 ds) G := by
  rintro ds G Q E ⟨d, ⟨rfl, rfl⟩, hq⟩
  unfold r_law_sides
  have e := hq G (Grow.refl G)
  simp only [wSides, toD, toDs] at e
  walk_at "ds"
  exact e
theorem law_rounds_rd : ∀ ds G Q E, pSp (RC (.tup [toD (wRnd false), toD (wRnd true)])) ds G Q E → r_law_rounds { nx := fun _ G' => Q .non G', rt := Q } (startD 2 ds) G := by
  rintro ds G Q E ⟨d, ⟨rfl, rfl⟩, hq⟩
  unfold r_law_rounds
  walk_at "ds"
  refine lcF [false, true] D.bl (fun t => toD (wRnd t)) ?_ (by decide) ?_ ?_
  · intro P hP
    walk_at "ds"
    exact hP _ _ (fun _ => trivial) (Grow.refl _)
  · intro t _
    refine ⟨_, rfl, fun G1 K hK => ?_⟩
    have e := hK G1 (Grow.refl _)
    simp only [wRnd, toD, toDs] at e
    walk_at "ds"
    exact e
  · intro G1 g1
    walk_at "ds"
    exact hq G1 g1
theorem law_great_rd : ∀ ds G Q E, pSp (RC (.tup [toD wG1, toD wG2, toD wG3])) ds G Q E → r_law_great { nx := fun _ G' => Q .non G', rt := Q } (startD 3 ds) G := by
  rintro ds G Q E ⟨d, ⟨rfl, rfl⟩, hq⟩
  unfold r_law_great
  have e := hq G (Grow.refl G)
  simp only [wG1, wG2, wG3, toD, toDs] at e
  walk_at "ds"
  exact e
theorem law_broad_rd : ∀ ds G Q E, pSp (RC (.tup [toD wB1, toD wB2, toD wB3, toD wB4])) ds G Q E → r_law_broad { nx := fun _ G' => Q .non G', rt := Q } (startD 1 ds) G := by
  rintro ds G Q E ⟨d, ⟨rfl, rfl⟩, hq⟩
  unfold r_law_broad
  have e := hq G (Grow.refl G)
  simp only [wB1, wB2, wB3, wB4, toD, toDs] at e
  walk_at "ds"
  exact e
end K17
namespace K17
open PySem L2 Dl
local macro_rules | `(tactic| walk_at "ds") => `(tactic| repeat' with_reducible first
  | refine iVar (by with_unfolding_all rfl) ?_
  | refine iCons ?_
  | refine iNil ?_
  | refine iC ?_
  | refine iOp ?_
  | refine iCall ?_
  | refine int0 ?_
  | refine iIRg1 ?_
  | fail "stuck")
def zz : Nat → Nat
  | 0 => 2
  | n + 1 => 4 * zz n + 6
theorem zz_two (n : Nat) : 2 ≤ zz n := by induction n with
  | zero => simp [zz]
  | succ n ih => simp only [zz]; omega
structure JobOk (n : Nat) (w : Wk) : Prop where
  ok : okW 12 w
  z : zW w ≤ zz n
  dp : dpW w ≤ 2 + 2 * n
  p : pW w ≤ 3 + 4 * n
theorem JobOk.tick {n : Nat} {m : Int} (h1 : 1 ≤ m) (h2 : m ≤ 12) : JobOk n (.tick m) := ⟨by rw [okW]; omega, by rw [zW]; exact zz_two n, by rw [dpW]; omega, by rw [pW]; omega⟩
theorem JobOk.sme {n : Nat} {a b : Int} {t : Bool} (h1 : 0 ≤ a) (h2 : a ≤ b) (h3 : b ≤ 12) : JobOk n (.sme a b t) := ⟨by rw [okW]; omega, by rw [zW]; exact zz_two n, by rw [dpW]; omega, by rw [pW]; omega⟩
theorem JobOk.lop {n : Nat} {a b : Int} {t : Bool} {w : Wk} (h1 : 0 ≤ a) (h2 : a ≤ b) (h3 : b ≤ 3) (h : JobOk n w) : JobOk (n + 1) (.lop a b t w) := by
  obtain ⟨h4, h5, h6, h7⟩ := h
  refine ⟨by rw [okW]; exact ⟨h1, h2, by omega, h4⟩, ?_, by rw [dpW]; omega, by rw [pW]; omega⟩
  have : (b.toNat + 1) * (zW w + 1) ≤ 4 * (zz n + 1) := Nat.mul_le_mul (by omega) (by omega)
  rw [zW, zz]; omega
theorem jobs_all {n : Nat} : ∀ {ws : List Wk}, (∀ w ∈ ws, JobOk n w) → okWs 12 ws ∧ zWs ws ≤ ws.length * zz n ∧ dpWs ws ≤ 2 + 2 * n ∧ pWs ws ≤ 3 + 4 * n
  | [], _ => ⟨by simp [okWs], by simp [zWs], by simp [dpWs], by simp only [pWs]; omega⟩
  | w :: ws, h => by
    obtain ⟨h1, h2, h3, h4⟩ := h w (List.mem_cons_self ..)
    obtain ⟨g1, g2, g3, g4⟩ := jobs_all fun x hx => h x (List.mem_cons_of_mem _ hx)
    exact ⟨by rw [okWs]; exact ⟨h1, g1⟩, by rw [zWs, List.length_cons, Nat.succ_mul]; omega, by rw [dpWs]; omega, by rw [pWs]; omega⟩
theorem JobOk.row {n : Nat} {ws : List Wk} (h : ∀ w ∈ ws, JobOk n w) (hl : ws.length ≤ 3) : JobOk (n + 1) (.row ws) := by
  obtain ⟨g1, g2, g3, g4⟩ := jobs_all h
  have : ws.length * zz n ≤ 3 * zz n := Nat.mul_le_mul_right _ hl
  exact ⟨by rw [okW]; exact g1, by rw [zW, zz]; omega, by rw [dpW]; omega, by rw [pW]; omega⟩
theorem JobOk.eit {n : Nat} {ws : List Wk} (h : ∀ w ∈ ws, JobOk n w) (hl : ws.length ≤ 3) (h0 : ws ≠ []) : JobOk (n + 1) (.eit ws) := by
  obtain ⟨g1, g2, g3, g4⟩ := jobs_all h
  have : ws.length * zz n ≤ 3 * zz n := Nat.mul_le_mul_right _ hl
  exact ⟨by rw [okW]; exact ⟨h0, g1⟩, by rw [zW, zz]; omega, by rw [dpW]; omega, by rw [pW]; omega⟩
theorem JobOk.bes {n : Nat} {a b : Wk} (h : JobOk n a) (k : JobOk n b) : JobOk (n + 1) (.bes a b) := by
  obtain ⟨g1, g2, g3, g4⟩ := h
  obtain ⟨k1, k2, k3, k4⟩ := k
  exact ⟨by rw [okW]; exact ⟨g1, k1⟩, by rw [zW, zz]; omega, by rw [dpW]; omega, by rw [pW]; omega⟩
def KeepY (a b : Addr) (G G' : GH) : Prop := ∀ c o, c ≠ a → c ≠ b → G c = some o → G' c = some o
theorem KeepY.trans {a b : Addr} {G G1 G2 : GH} (h : KeepY a b G G1) (k : KeepY a b G1 G2) : KeepY a b G G2 := fun c o n m e => k c o n m (h c o n m e)
theorem KeepY.of {a b : Addr} {G G' : GH} (h : KeepX a G G') : KeepY a b G G' := fun c o n _ e => h c o n e
theorem KeepY.upd {a b : Addr} {G : GH} {o : DO} : KeepY a b G (updG G b o) := fun c u _ n e => by rw [updG_ne n]; exact e
def SpareOk (G : GH) (b : Addr) : Prop := ∃ (s : Int) (t : Bool), G b = some (.lst [.int s, .bl t])
end K17
namespace K17
open PySem L2 Dl
local macro_rules | `(tactic| walk_at "ds") => `(tactic| repeat' with_reducible first
  | refine iVar (by with_unfolding_all rfl) ?_
  | refine iCons ?_
  | refine iNil ?_
  | refine iC ?_
  | refine iOp ?_
  | refine iSeq ?_
  | refine iAsg ?_
  | refine iGNm ?_
  | refine iTup ?_
  | refine iFrz ?_
  | refine iTst ?_
  | refine iIfS ?_
  | refine iRet ?_
  | refine iCall ?_
  | refine iNext ?_
  | refine iPar ?_
  | refine iGTp (by with_unfolding_all rfl) ?_
  | refine iGsCons ?_
  | refine iGsNil ?_
  | refine iGSb ?_
  | refine lenOk (by with_unfolding_all rfl) ?_
  | refine iTru ?_
  | refine truB ?_
  | refine iAnd ?_
  | refine iOr ?_
  | refine iNot ?_
  | refine iAndVK ?_
  | refine andVT ?_
  | refine andVF ?_
  | refine andVDT (by decide) ?_
  | refine andVDF (by decide) ?_
  | refine ifDT (by decide) ?_
  | refine ifDF (by decide) ?_
  | refine iNotV ?_
  | refine iIf ?_
  | refine ifT ?_
  | refine ifF ?_
  | refine iCB ?_
  | refine rIx_i (by with_unfolding_all rfl) (by with_unfolding_all rfl) ?_
  | refine rIx_i (by with_unfolding_all rfl) atI_0 ?_
  | refine eq_ii ?_
  | refine add_ii ?_
  | refine int0 ?_
  | refine tupC_l ?_
  | refine min2_ii ?_
  | refine inn_T (by with_unfolding_all rfl) (by decide +kernel) (by decide +kernel) (by decide +kernel) ?_
  | refine inn_F (by with_unfolding_all rfl) (by decide +kernel) (by decide +kernel) (by decide +kernel) ?_
  | fail "stuck")
theorem FeedOk.keepU {a b : Addr} {G : GH} {o : DO} (h : FeedOk G a) (hn : a ≠ b) : FeedOk (updG G b o) a := by
  obtain ⟨c, x, y, z, e⟩ := h
  exact ⟨c, x, y, z, by rw [updG_ne hn]; exact e⟩
end K17
namespace K17
open PySem L2 Dl
local macro_rules | `(tactic| walk_at "ds") => `(tactic| repeat' with_reducible first
  | refine iVar (by with_unfolding_all rfl) ?_
  | refine iCons ?_
  | refine iNil ?_
  | refine iC ?_
  | refine iOp ?_
  | refine iSeq ?_
  | refine iAsg ?_
  | refine iGNm ?_
  | refine iFrz ?_
  | refine iTst ?_
  | refine iIfS ?_
  | refine iRet ?_
  | refine iCall ?_
  | refine iLst ?_
  | refine iNext ?_
  | refine iPar ?_
  | refine lenOk (by with_unfolding_all rfl) ?_
  | refine frzEnd ?_
  | refine iTru ?_
  | refine truB ?_
  | refine iAndVK ?_
  | refine andVT ?_
  | refine iIf ?_
  | refine ifT ?_
  | refine ifF ?_
  | refine iCB ?_
  | refine rIx_i (by with_unfolding_all rfl) (by with_unfolding_all rfl) ?_
  | refine rIx_i (by with_unfolding_all rfl) atI_0 ?_
  | refine eq_strT ?_
  | refine ne_strT ?_
  | refine tupC_l ?_
  | fail "stuck")
mutual
theorem okW_mono {A B : Int} (h : A ≤ B) : ∀ w : Wk, okW A w → okW B w
  | .tick _, k => by rw [okW] at *; omega
  | .sme _ _ _, k => by rw [okW] at *; omega
  | .lop _ _ _ w, k => by rw [okW] at *; exact ⟨k.1, k.2.1, by omega, okW_mono h w k.2.2.2⟩
  | .eit ws, k => by rw [okW] at *; exact ⟨k.1, okWs_mono h ws k.2⟩
  | .row ws, k => by rw [okW] at *; exact okWs_mono h ws k
  | .bes a b, k => by rw [okW] at *; exact ⟨okW_mono h a k.1, okW_mono h b k.2⟩
theorem okWs_mono {A B : Int} (h : A ≤ B) : ∀ ws : List Wk, okWs A ws → okWs B ws
  | [], _ => by simp [okWs]
  | w :: ws, k => by rw [okWs] at *; exact ⟨okW_mono h w k.1, okWs_mono h ws k.2⟩
end
structure Bd (w : Wk) : Prop where
  ok : okW 12 w
  z : zW w ≤ 270
  p : pW w ≤ 16
  dp : dpW w ≤ 20
theorem Bd.o {w : Wk} (h : Bd w) : okW 999 w := okW_mono (by decide) w h.ok
theorem Bd.tidy {w : Wk} (h : Bd w) : Bd (tidyW w) ∧ dpW (tidyW w) ≤ 16 := by
  have h1 := tidy_z w
  have h2 := tidy_p w
  have h3 := tidy_dp_p w
  obtain ⟨a, b, c, d⟩ := h
  exact ⟨⟨tidy_ok w a, by omega, by omega, by omega⟩, by omega⟩
theorem Bd.beh {w : Wk} {s : Sg} (h : Bd w) (hd : dpW w ≤ 16) (hs : s ∈ nxW w) : Bd (behW w s) := by
  obtain ⟨a, b, c, d⟩ := h
  obtain ⟨e, f, g, i⟩ := beh_ok (B := 12) w s a hs
  exact ⟨e, by omega, by omega, by omega⟩
theorem Bd.after {w : Wk} {s : Sg} (h : Bd w) (hd : dpW w ≤ 16) (hs : s ∈ nxW w) : Bd (tidyW (behW w s)) ∧ dpW (tidyW (behW w s)) ≤ 16 := (h.beh hd hs).tidy
theorem seqW (w : Wk) : isSeqD (toD w) = true := by cases w <;> simp [toD, isSeqD]
theorem vwW (G : GH) (w : Wk) : vw G (toD w) = toD w := by cases w <;> simp [toD, vw]
theorem Bd.sm {w : Wk} (h : Bd w) : smD (toD w) = true := sm_toD (B := 999) (by decide) w h.o
theorem Bd.wt {w : Wk} (h : Bd w) : wtD (toD w) ≤ 16200 := by have := wt_toD w; have := h.z; omega
theorem Bd.dep {w : Wk} (h : Bd w) : depD (toD w) ≤ 20 := by rw [dep_toD]; exact h.dp
theorem Bd.shw {w : Wk} (h : Bd w) : Shw (toD w) := shw_of (seqW w) h.sm (by have := h.dep; omega) (by have := h.wt; omega)
theorem Bd.nxs {w : Wk} (h : Bd w) : smDs ((nxW w).map sgD) = true ∧ depDs ((nxW w).map sgD) ≤ 21 ∧ wtDs ((nxW w).map sgD) ≤ 330000 ∧ (nxW w).length ≤ 1755 := by
  have k := nx_ok (B := 999) (by decide) w h.o (by have := h.z; omega)
  have hd := h.dp
  have hl := nx_len (B := 12) (by decide) w h.ok
  have h4 : (12 + 1 : Int).toNat * zW w ≤ (12 + 1 : Int).toNat * 270 := Nat.mul_le_mul_left _ h.z
  have h5 : (12 + 1 : Int).toNat * 270 = 3510 := by decide
  have hl2 : (nxW w).length ≤ 1755 := by omega
  refine ⟨?_, ?_, ?_, hl2⟩
  · rw [smDs_iff]; intro d hd; obtain ⟨s, hs, rfl⟩ := List.mem_map.mp hd; exact (k s hs).sm
  · refine depDs_le ?_; intro d hd'; obtain ⟨s, hs, rfl⟩ := List.mem_map.mp hd'; have := (k s hs).dp; omega
  · have h6 : wtDs ((nxW w).map sgD) ≤ ((nxW w).map sgD).length * (186 + 1) := wtDs_le (by intro d hd'; obtain ⟨s, hs, rfl⟩ := List.mem_map.mp hd'; have := (k s hs).wt; omega)
    rw [List.length_map] at h6
    have h7 : (nxW w).length * (186 + 1) ≤ 1755 * (186 + 1) := Nat.mul_le_mul_right _ hl2
    omega
theorem repr_w {w : Wk} {G : GH} {Q : DK} (e : Shw (toD w)) (h : Q (.str (shD (toD w))) G) : rRepr [toD w] G Q := by
  refine repr_i ?_ ?_ <;> rw [vwW] <;> assumption
theorem repr_t {l : List D} {G : GH} {Q : DK} (e : Shw (.tup l)) (h : Q (.str (shD (.tup l))) G) : rRepr [.tup l] G Q := repr_i e h
theorem JobOk.bd {w : Wk} (h : JobOk 3 w) : Bd w := by
  obtain ⟨a, b, c, d⟩ := h
  have : zz 3 = 254 := by decide
  exact ⟨a, by omega, by omega, by omega⟩
theorem bd_rnd (t : Bool) : Bd (wRnd t) := by cases t <;> exact ⟨by simp [wRnd, okW, okWs], by decide, by decide, by decide⟩
end K17
namespace K17
open PySem L2 Dl
local macro_rules | `(tactic| walk_at "ds") => `(tactic| repeat' with_reducible first
  | refine iVar (by with_unfolding_all rfl) ?_
  | refine iCons ?_
  | refine iNil ?_
  | refine iC ?_
  | refine iOp ?_
  | refine iSeq ?_
  | refine iAsg ?_
  | refine iGNm ?_
  | refine iTup ?_
  | refine iFrz ?_
  | refine iTst ?_
  | refine iIfS ?_
  | refine iRet ?_
  | refine iCall ?_
  | refine iLst ?_
  | refine iNext ?_
  | refine iDrop ?_
  | refine iGTp (by with_unfolding_all rfl) ?_
  | refine iGsCons ?_
  | refine iGsNil ?_
  | refine iGSb ?_
  | refine lenOk (by with_unfolding_all rfl) ?_
  | refine frzEnd ?_
  | refine iAnd ?_
  | refine iAndVK ?_
  | refine ifT ?_
  | refine ifF ?_
  | refine iCB ?_
  | refine iMt ?_
  | refine iFor ?_
  | refine iISq ?_
  | refine add_ii ?_
  | refine int0 ?_
  | refine iPsC ?_
  | refine iPsN ?_
  | fail "stuck")
theorem ne_rl {p : Addr} {l b : List D} {G : GH} {Q : DK} (e : G p = some (.lst l)) (h1 : okD (.lst l)) (h2 : okD (.lst b)) (h : Q (.bl (!eqvD (.lst l) (.lst b))) G) : rCmp not (.ref p) (.lst b) G Q := by
  unfold rCmp vw
  dsimp only
  rw [e]
  exact ⟨h1, h2, h⟩
theorem okNil : okD (.lst []) := okD_of (by decide +kernel) (by decide +kernel)
theorem putD_new {kvs : List (Key × D)} {k : Key} {d : D} (h : getK kvs k = none) : putD kvs k d = kvs ++ [(k, d)] := by
  unfold putD
  rw [if_neg]
  intro e
  rw [List.any_eq_true] at e
  obtain ⟨p, hp, e⟩ := e
  have : ∀ {l : List (Key × D)}, p ∈ l → getK l k ≠ none := by
    intro l
    induction l with
    | nil => intro h; cases h
    | cons q r ih =>
      intro h
      unfold getK
      split
      · simp
      · rename_i hne
        rcases List.mem_cons.mp h with rfl | h
        · exact absurd (by simpa using e) hne
        · exact ih h
  exact this hp h
theorem dIn_i {a : Addr} {kvs : List (Key × D)} {x : Str} {f : Bool → Bool} {G : GH} {Q : DK} (e : G a = some (.dct kvs)) (h : Q (.bl (f (getK kvs (.inr x)).isSome)) G) : rDIn f (.str x) (.ref a) G Q := dctP_i e h
def itD (q : Int × Wk) : D := .tup [.int q.1, toD q.2]
structure PileOk (k : Nat) (items : List (Int × Wk)) : Prop where
  all : ∀ q ∈ items, 0 ≤ q.1 ∧ q.1 ≤ k ∧ Bd q.2 ∧ dpW q.2 ≤ 16
structure Pl (G0 : GH) (p1 p2 : Addr) (k : Nat) (G : GH) : Prop where
  ex : ∃ items kvs, G p1 = some (.lst (items.map itD)) ∧ G p2 = some (.dct kvs) ∧ items.length + k = kvs.length ∧ PileOk k items ∧ kvs.length ≤ 100000 + 2000 * k
  gr : Grow G0 G
end K17
namespace K17
open PySem L2 Dl
local macro_rules | `(tactic| walk_at "ds") => `(tactic| repeat' with_reducible first
  | refine iVar (by with_unfolding_all rfl) ?_
  | refine iCons ?_
  | refine iNil ?_
  | refine iC ?_
  | refine iOp ?_
  | refine iSeq ?_
  | refine iAsg ?_
  | refine iGNm ?_
  | refine iTup ?_
  | refine iFrz ?_
  | refine iTst ?_
  | refine iIfS ?_
  | refine iRet ?_
  | refine iCall ?_
  | refine iLst ?_
  | refine iNext ?_
  | refine iDrop ?_
  | refine iGTp (by with_unfolding_all rfl) ?_
  | refine iGsCons ?_
  | refine iGsNil ?_
  | refine lenOk (by with_unfolding_all rfl) ?_
  | refine frzEnd ?_
  | refine lstC_t ?_
  | refine iTru ?_
  | refine truB ?_
  | refine iNot ?_
  | refine iCB ?_
  | refine iMt ?_
  | refine iFor ?_
  | refine iISq ?_
  | refine iIRg1 ?_
  | fail "stuck")
theorem bd_dec {w : Wk} (h1 : okW 12 w) (h2 : (zW w).ble 270 = true) (h3 : (pW w).ble 16 = true) (h4 : (dpW w).ble 14 = true) : Bd w ∧ dpW w ≤ 16 :=
  ⟨⟨h1, Nat.le_of_ble_eq_true h2, Nat.le_of_ble_eq_true h3, by have := Nat.le_of_ble_eq_true h4; omega⟩, by have := Nat.le_of_ble_eq_true h4; omega⟩
def spLaw : DSp := fun ds G Q _ => ∃ ns, ds = [.scr ns] ∧ ∀ G', Q (.bl true) G'
end K17
namespace K18
open PySem L2 Dl K17
local macro_rules | `(tactic| walk_at "ds") => `(tactic| repeat' with_reducible first
  | refine iVar (by with_unfolding_all rfl) ?_
  | refine iCons ?_
  | refine iNil ?_
  | refine iC ?_
  | refine iOp ?_
  | refine iSeq ?_
  | refine iAsg ?_
  | refine iGNm ?_
  | refine iFrz ?_
  | refine iTst ?_
  | refine iIfS ?_
  | refine iRet ?_
  | refine iCall ?_
  | refine iNext ?_
  | refine iTru ?_
  | refine truB ?_
  | refine iOr ?_
  | refine iNot ?_
  | refine iAndVK ?_
  | refine andVT ?_
  | refine andVF ?_
  | refine andVDT (by decide) ?_
  | refine andVDF (by decide) ?_
  | refine iNotV ?_
  | refine ifT ?_
  | refine ifF ?_
  | refine iCB ?_
  | refine iIsi ?_
  | refine iISq ?_
  | refine rIx_i (by with_unfolding_all rfl) (by with_unfolding_all rfl) ?_
  | refine rIx_i (by with_unfolding_all rfl) atI_0 ?_
  | refine eq_ii ?_
  | refine ne_ii ?_
  | refine len_t ?_
  | refine isi_T (by with_unfolding_all rfl) (by decide +kernel) ?_
  | refine isi_F (by with_unfolding_all rfl) (by decide +kernel) ?_
  | refine ifNT ?_
  | refine ifNF ?_
  | refine andVDT (by with_reducible_and_instances first | omega | (simp only [List.length_cons, List.length_nil]; omega)) ?_
  | refine andVDF (by with_reducible_and_instances first | omega | (simp only [List.length_cons, List.length_nil]; omega)) ?_
  | refine ifNDT (by with_reducible_and_instances first | omega | (simp only [List.length_cons, List.length_nil]; omega)) ?_
  | refine ifNDF (by with_reducible_and_instances first | omega | (simp only [List.length_cons, List.length_nil]; omega)) ?_
  | fail "stuck")
def isNumB : D → Bool
  | .int n => decide (0 ≤ n)
  | _ => false
def isSgB : D → Bool
  | .str x => inD (.str x) [.str "tick", .str "more", .str "end"]
  | .tup [.str x, y] => if inD (.str x) [.str "left", .str "right"] = true then isSgB y else inD (.str x) [.str "many", .str "way"] && isNumB y
  | _ => false
theorem cleanDs_iff : ∀ {ds : List D}, cleanDs ds = true ↔ ∀ d ∈ ds, cleanD d = true
  | [] => by simp [cleanDs]
  | d :: ds => by simp [cleanDs, cleanDs_iff (ds := ds)]
end K18
namespace K18
open PySem L2 Dl K17
local macro_rules | `(tactic| walk_at "ds") => `(tactic| repeat' with_reducible first
  | fail "stuck")
def sgPos : Sg → Prop
  | .many n => 0 ≤ n
  | .left s => sgPos s
  | .right s => sgPos s
  | _ => True
mutual
theorem nx_pos {B : Int} : ∀ (w : Wk), okW B w → ∀ s ∈ nxW w, sgPos s
  | .tick n, h, s, hs => by rw [nxW, List.mem_singleton] at hs; subst hs; trivial
  | .sme a b t, h, s, hs => by
    rw [okW] at h
    rw [nxW] at hs
    split at hs
    · obtain ⟨n, rfl, h1, h2⟩ := manyS_mem hs; rw [sgPos]; omega
    · rcases List.mem_append.mp hs with q | q <;> split at q <;> first | cases q; done | (rw [List.mem_singleton] at q; subst q; trivial)
  | .lop a b t w, h, s, hs => by
    rw [okW] at h
    rw [nxW] at hs
    split at hs
    · obtain ⟨n, rfl, h1, h2⟩ := manyS_mem hs; rw [sgPos]; omega
    · rcases List.mem_append.mp hs with q | q <;> split at q <;> first | cases q; done | (rw [List.mem_singleton] at q; subst q; trivial)
  | .eit ws, h, s, hs => by rw [nxW] at hs; obtain ⟨i, hi, rfl⟩ := List.mem_map.mp hs; trivial
  | .row ws, h, s, hs => by rw [okW] at h; rw [nxW] at hs; exact nxs_pos ws h s hs
  | .bes a b, h, s, hs => by
    rw [okW] at h
    rw [nxW] at hs
    rcases List.mem_append.mp hs with q | q
    · obtain ⟨t, ht, rfl⟩ := List.mem_map.mp q; rw [sgPos]; exact nx_pos a h.1 t ht
    · obtain ⟨t, ht, rfl⟩ := List.mem_map.mp q; rw [sgPos]; exact nx_pos b h.2 t ht
theorem nxs_pos {B : Int} : ∀ (ws : List Wk), okWs B ws → ∀ s ∈ nxWs ws, sgPos s
  | [], h, s, hs => by simp [nxWs] at hs
  | w :: ws, h, s, hs => by rw [okWs] at h; rw [nxWs] at hs; exact nx_pos w h.1 s hs
end
def BdT (w : Wk) : Prop := Bd w ∧ dpW w ≤ 16
structure Th (d : D) : Prop where
  cl : cleanD d = true
  sm : smD d = true
  dp : depD d ≤ 40
  wt : wtD d ≤ 400000
theorem cl_sg : ∀ s : Sg, cleanD (sgD s) = true
  | .tick => by decide +kernel
  | .more => by decide +kernel
  | .fin => by decide +kernel
  | .many n => by
    have : cleanS "many" = true := by decide +kernel
    simp [sgD, cleanD, cleanDs, this]
  | .way n => by
    have : cleanS "way" = true := by decide +kernel
    simp [sgD, cleanD, cleanDs, this]
  | .left s => by
    have : cleanS "left" = true := by decide +kernel
    simp [sgD, cleanD, cleanDs, this, cl_sg s]
  | .right s => by
    have : cleanS "right" = true := by decide +kernel
    simp [sgD, cleanD, cleanDs, this, cl_sg s]
theorem _root_.K17.Bd.th {w : Wk} (h : Bd w) {s : Sg} (hs : s ∈ nxW w) : Th (sgD s) := by
  have k := nx_ok (B := 999) (by decide) w h.o (by have := h.z; omega) s hs
  have h1 := k.dp
  have h2 := k.wt
  have h3 := h.dp
  exact ⟨cl_sg s, k.sm, by omega, by omega⟩
end K18
namespace K18
open PySem L2 Dl K17
local macro_rules | `(tactic| walk_at "ds") => `(tactic| repeat' with_reducible first
  | fail "stuck")
mutual
def mW : Wk → Nat
  | .tick n => n.toNat
  | .sme _ b _ => b.toNat + 1
  | .lop _ b _ w => b.toNat * (mW w + 1) + 1
  | .eit ws => 1 + mWs ws
  | .row ws => mWs ws
  | .bes a b => mW a + mW b
def mWs : List Wk → Nat
  | [] => 0
  | w :: ws => mW w + mWs ws
end
theorem mWs_app (a b : List Wk) : mWs (a ++ b) = mWs a + mWs b := by
  induction a with
  | nil => simp [mWs]
  | cons x xs ih => simp only [List.cons_append, mWs, ih]; omega
theorem mWs_rep (n : Nat) (w : Wk) : mWs (List.replicate n w) = n * mW w := by
  induction n with
  | zero => simp [mWs]
  | succ n ih => rw [List.replicate_succ, mWs, ih, Nat.succ_mul]; omega
theorem mWs_mem : ∀ {ws : List Wk} {w : Wk}, w ∈ ws → mW w ≤ mWs ws
  | x :: xs, w, h => by
    rcases List.mem_cons.mp h with e | e
    · subst e; simp only [mWs]; omega
    · have := mWs_mem e; simp only [mWs]; omega
theorem inRow_m {w : Wk} : mWs (inRow w) = mW w := by
  cases w <;> simp only [inRow, mWs, mW] <;> omega
mutual
theorem tidy_m : ∀ w : Wk, mW (tidyW w) ≤ mW w
  | .tick _ => by simp [tidyW]
  | .sme _ _ _ => by simp [tidyW]
  | .lop _ _ _ _ => by simp [tidyW]
  | .eit _ => by simp [tidyW]
  | .row ws => by
    have k := flat_m ws
    rcases mkRow_cases (flatW ws) with ⟨w, e, f⟩ | f
    · rw [tidyW, f]; rw [e] at k; simp only [mWs, mW] at k ⊢; omega
    · rw [tidyW, f]; simp only [mW]; omega
  | .bes a b => by
    have h1 := tidy_m a
    have h2 := tidy_m b
    rw [tidyW]
    split
    · simp only [mW, mWs]; omega
    · simp only [mW]; omega
theorem flat_m : ∀ ws : List Wk, mWs (flatW ws) ≤ mWs ws
  | [] => by simp [flatW]
  | w :: ws => by
    have h1 := tidy_m w
    have h2 := flat_m ws
    have h3 := inRow_m (w := tidyW w)
    rw [flatW, mWs_app, mWs]
    omega
end
theorem tk_m (n : Int) : mW (tkW n) = n.toNat := by
  unfold tkW
  split
  · rw [mW]
  · rw [mW, mWs]; omega
mutual
theorem beh_m {B : Int} : ∀ (w : Wk) (s : Sg), okW B w → s ∈ nxW w → mW (behW w s) < mW w
  | .tick n, s, h, hs => by
    rw [okW] at h
    rw [show behW (.tick n) s = tkW (n - 1) from by simp [behW], tk_m, mW]; omega
  | .sme a b true, s, h, hs => by
    rw [okW] at h
    rw [nxW, if_pos rfl] at hs
    obtain ⟨n, rfl, h1, h2⟩ := manyS_mem hs
    rw [show behW (.sme a b true) (.many n) = tkW n from by simp [behW], tk_m, mW]; omega
  | .sme a b false, s, h, hs => by
    rw [okW] at h
    rw [nxW, if_neg (by decide)] at hs
    rcases List.mem_append.mp hs with q | q
    · split at q
      · rw [List.mem_singleton] at q; subst q
        rw [show behW (.sme a b false) .tick = .sme (dec0 a) (b - 1) false from by simp [behW], mW, mW]; omega
      · cases q
    · split at q
      · rw [List.mem_singleton] at q; subst q
        rw [show behW (.sme a b false) .fin = .row [] from by simp [behW]]; simp only [mW, mWs]; omega
      · cases q
  | .lop a b true w, s, h, hs => by
    rw [okW] at h
    rw [nxW, if_pos rfl] at hs
    obtain ⟨n, rfl, h1, h2⟩ := manyS_mem hs
    rw [show behW (.lop a b true w) (.many n) = .row (List.replicate n.toNat w) from by simp [behW]]; simp only [mW, mWs_rep]
    have : n.toNat * mW w ≤ b.toNat * (mW w + 1) := Nat.mul_le_mul (by omega) (by omega)
    omega
  | .lop a b false w, s, h, hs => by
    rw [okW] at h
    rw [nxW, if_neg (by decide)] at hs
    rcases List.mem_append.mp hs with q | q
    · split at q
      · rename_i hb
        rw [List.mem_singleton] at q; subst q
        obtain ⟨m, hm⟩ : ∃ m, b.toNat = m + 1 := ⟨b.toNat - 1, by omega⟩
        have hm2 : (b - 1).toNat = m := by omega
        rw [show behW (.lop a b false w) .more = .row [w, .lop (dec0 a) (b - 1) false w] from by simp [behW]]
        simp only [mW, mWs, hm, hm2, Nat.add_mul, Nat.mul_add]; omega
      · cases q
    · split at q
      · rw [List.mem_singleton] at q; subst q
        rw [show behW (.lop a b false w) .fin = .row [] from by simp [behW]]; simp only [mW, mWs]; omega
      · cases q
  | .eit ws, s, h, hs => by
    rw [nxW] at hs
    obtain ⟨i, hi, rfl⟩ := List.mem_map.mp hs
    rw [List.mem_range] at hi
    have e : ws.getD i (.row []) = ws[i] := by simp [List.getD, hi]
    rw [show behW (.eit ws) (.way i) = ws.getD i (.row []) from by simp [behW], e, mW]
    have := mWs_mem (List.getElem_mem hi)
    omega
  | .row ws, s, h, hs => by
    rw [okW] at h
    rw [nxW] at hs
    rw [show behW (.row ws) s = .row (behWs ws s) from by simp [behW], mW, mW]
    exact behs_m ws s h hs
  | .bes a b, s, h, hs => by
    rw [okW] at h
    rw [nxW] at hs
    rcases List.mem_append.mp hs with q | q
    · obtain ⟨t, ht, rfl⟩ := List.mem_map.mp q
      have := beh_m a t h.1 ht
      rw [show behW (.bes a b) (.left t) = .bes (behW a t) b from by simp [behW], mW, mW]; omega
    · obtain ⟨t, ht, rfl⟩ := List.mem_map.mp q
      have := beh_m b t h.2 ht
      rw [show behW (.bes a b) (.right t) = .bes a (behW b t) from by simp [behW], mW, mW]; omega
theorem behs_m {B : Int} : ∀ (ws : List Wk) (s : Sg), okWs B ws → s ∈ nxWs ws → mWs (behWs ws s) < mWs ws
  | [], s, h, hs => by simp [nxWs] at hs
  | w :: ws, s, h, hs => by
    rw [okWs] at h
    rw [nxWs] at hs
    have := beh_m w s h.1 hs
    rw [show behWs (w :: ws) s = behW w s :: ws from by simp [behWs], mWs, mWs]; omega
end
mutual
theorem m_le_z : ∀ w : Wk, okW 12 w → mW w ≤ 7 * zW w
  | .tick n, h => by rw [okW] at h; rw [mW, zW]; omega
  | .sme a b t, h => by rw [okW] at h; rw [mW, zW]; omega
  | .lop a b t w, h => by
    rw [okW] at h
    have k := m_le_z w h.2.2.2
    rw [mW, zW]
    have : b.toNat * (mW w + 1) ≤ (b.toNat + 1) * (7 * (zW w + 1)) := Nat.mul_le_mul (by omega) (by omega)
    rw [show (b.toNat + 1) * (7 * (zW w + 1)) = 7 * ((b.toNat + 1) * (zW w + 1)) from by rw [Nat.mul_left_comm]] at this
    omega
  | .eit ws, h => by rw [okW] at h; have := ms_le_z ws h.2; rw [mW, zW]; omega
  | .row ws, h => by rw [okW] at h; have := ms_le_z ws h; rw [mW, zW]; omega
  | .bes a b, h => by rw [okW] at h; have := m_le_z a h.1; have := m_le_z b h.2; rw [mW, zW]; omega
theorem ms_le_z : ∀ ws : List Wk, okWs 12 ws → mWs ws ≤ 7 * zWs ws
  | [], _ => by simp [mWs]
  | w :: ws, h => by rw [okWs] at h; have := m_le_z w h.1; have := ms_le_z ws h.2; rw [mWs, zWs]; omega
end
theorem _root_.K17.Bd.m {w : Wk} (h : Bd w) : mW w ≤ 1890 := by have := m_le_z w h.ok; have := h.z; omega
def aft (w : Wk) (s : Sg) : Wk := tidyW (behW w s)
theorem aft_m {B : Int} {w : Wk} {s : Sg} (h : okW B w) (hs : s ∈ nxW w) : mW (aft w s) < mW w := Nat.lt_of_le_of_lt (tidy_m _) (beh_m w s h hs)
theorem BdT.aft {w : Wk} {s : Sg} (h : BdT w) (hs : s ∈ nxW w) : BdT (aft w s) := h.1.after h.2 hs
theorem BdT.o {w : Wk} (h : BdT w) : okW 12 w := h.1.ok
section
variable {α : Type} (f : List (Sg × α) → α)
end
inductive Path : Wk → List Sg → Wk → Prop
  | nil (w : Wk) : Path w [] w
  | cons {w v : Wk} {s : Sg} {ss : List Sg} (h : s ∈ nxW w) (k : Path (aft w s) ss v) : Path w (s :: ss) v
theorem Path.snoc {w v : Wk} {ss : List Sg} (h : Path w ss v) {s : Sg} (hs : s ∈ nxW v) : Path w (ss ++ [s]) (aft v s) := by
  induction h with
  | nil w => exact .cons hs (.nil _)
  | cons h k ih => exact .cons h (ih hs)
theorem Path.m {w v : Wk} {ss : List Sg} (h : Path w ss v) (b : BdT w) : mW v + ss.length ≤ mW w := by
  induction h with
  | nil w => simp
  | cons h k ih => have := ih (b.aft h); have := aft_m b.o h; simp only [List.length_cons]; omega
theorem Path.th {w v : Wk} {ss : List Sg} (h : Path w ss v) (b : BdT w) : ∀ s ∈ ss, Th (sgD s) ∧ sgPos s := by
  induction h with
  | nil w => intro s hs; cases hs
  | @cons w v s ss h k ih =>
    intro t ht
    rcases List.mem_cons.mp ht with rfl | ht
    · exact ⟨b.1.th h, nx_pos w b.o t h⟩
    · exact ih (b.aft h) t ht
end K18
namespace K18
open PySem L2 Dl K17
local macro_rules | `(tactic| walk_at "ds") => `(tactic| repeat' with_reducible first
  | refine iVar (by with_unfolding_all rfl) ?_
  | refine iCons ?_
  | refine iNil ?_
  | refine iC ?_
  | refine iOp ?_
  | refine iSeq ?_
  | refine iAsg ?_
  | refine iGNm ?_
  | refine iFrz ?_
  | refine iTst ?_
  | refine iIfS ?_
  | refine iRet ?_
  | refine iCall ?_
  | refine iLst ?_
  | refine iNext ?_
  | refine iNeg ?_
  | refine lstP_i (by assumption) ?_
  | refine lstP_i updG_same ?_
  | refine iCallG ?_
  | refine iDrop ?_
  | refine lenOk (by with_unfolding_all rfl) ?_
  | refine frzEnd ?_
  | refine iTru ?_
  | refine truB ?_
  | refine iNot ?_
  | refine iAndVK ?_
  | refine andVT ?_
  | refine andVF ?_
  | refine ifDF (by decide) ?_
  | refine ifT ?_
  | refine ifF ?_
  | refine iCB ?_
  | refine iMt ?_
  | refine iStar ?_
  | refine iFor ?_
  | refine iISq ?_
  | refine rIx_i (by with_unfolding_all rfl) (by with_unfolding_all rfl) ?_
  | refine rIx_i (by with_unfolding_all rfl) atI_0 ?_
  | refine eq_ii ?_
  | refine int0 ?_
  | refine len_t ?_
  | refine len_l ?_
  | refine ifNT ?_
  | refine ifDF (by with_reducible_and_instances first | omega | (simp only [List.length_cons, List.length_nil]; omega)) ?_
  | fail "stuck")
theorem okL {ws : List Wk} (h : ∀ w ∈ ws, BdT w) : okD (.lst (toDs ws)) := by
  refine okD_of ?_ ?_
  · rw [smD]
    refine sm_toDs (B := 999) (by decide) ws ?_
    rw [okWs_iff]
    exact fun w hw => (h w hw).1.o
  · rw [depD, dep_toDs]
    have : dpWs ws ≤ 16 := by
      induction ws with
      | nil => simp [dpWs]
      | cons w ws ih => rw [dpWs]; have := (h w (List.mem_cons_self ..)).2; have := ih fun v hv => h v (List.mem_cons_of_mem _ hv); omega
    omega
end K18
namespace K18
open PySem L2 Dl K17
local macro_rules | `(tactic| walk_at "ds") => `(tactic| repeat' with_reducible first
  | refine iVar (by with_unfolding_all rfl) ?_
  | refine iCons ?_
  | refine iNil ?_
  | refine iC ?_
  | refine iOp ?_
  | refine iSeq ?_
  | refine iAsg ?_
  | refine iGNm ?_
  | refine iTup ?_
  | refine iFrz ?_
  | refine iTst ?_
  | refine iIfS ?_
  | refine iRet ?_
  | refine iCall ?_
  | refine iLst ?_
  | refine iNext ?_
  | refine lstP_i (by assumption) ?_
  | refine lstP_i updG_same ?_
  | refine iRev ?_
  | refine revL ?_
  | refine iDrop ?_
  | refine iPar ?_
  | refine iGTp (by with_unfolding_all rfl) ?_
  | refine iGsCons ?_
  | refine iGsNil ?_
  | refine lenOk (by with_unfolding_all rfl) ?_
  | refine frzEnd ?_
  | refine iAnd ?_
  | refine ifT ?_
  | refine ifF ?_
  | refine iCB ?_
  | refine iMt ?_
  | refine iFor ?_
  | refine iISq ?_
  | refine int0 ?_
  | refine iIEnT ?_
  | refine ifNT ?_
  | refine ifNF ?_
  | fail "stuck")
def runD (r : List Sg) : D := .tup (r.map sgD)
structure PileR (w0 : Wk) (items : List (List Sg × Wk)) : Prop where
  all : ∀ q ∈ items, Path w0 q.1 q.2
  ix : ∀ (i : Nat) (q : List Sg × Wk), items[i]? = some q → i ≤ 1755 * (mW w0 - mW q.2)
theorem runs_le {w0 : Wk} (h0 : BdT w0) {q : List Sg × Wk} (h : Path w0 q.1 q.2) : q.1.length ≤ 1890 := by
  have := h.m h0
  have := h0.1.m
  omega
theorem sg_sum {l : List D} (h : ∀ x ∈ l, Th x ∧ depD x ≤ 38 ∧ wtD x ≤ 200) (hl : l.length ≤ 1900) : Th (.tup l) := by
  refine ⟨?_, ?_, ?_, ?_⟩
  · rw [cleanD, cleanDs_iff]; exact fun x hx => (h x hx).1.cl
  · rw [smD, smDs_iff]; exact fun x hx => (h x hx).1.sm
  · rw [depD]; have := depDs_le fun x hx => (h x hx).2.1; omega
  · rw [wtD]
    have h1 := wtDs_le fun x hx => (h x hx).2.2
    have h2 : l.length * (200 + 1) ≤ 1900 * (200 + 1) := Nat.mul_le_mul_right _ hl
    omega
theorem _root_.K17.Bd.th2 {w : Wk} (h : Bd w) {s : Sg} (hs : s ∈ nxW w) : Th (sgD s) ∧ depD (sgD s) ≤ 38 ∧ wtD (sgD s) ≤ 200 := by
  have k := nx_ok (B := 999) (by decide) w h.o (by have := h.z; omega) s hs
  have h1 := k.dp
  have h2 := k.wt
  have h3 := h.dp
  exact ⟨h.th hs, by omega, by omega⟩
theorem Path.th2 {w v : Wk} {ss : List Sg} (h : Path w ss v) (b : BdT w) : ∀ s ∈ ss, Th (sgD s) ∧ depD (sgD s) ≤ 38 ∧ wtD (sgD s) ≤ 200 := by
  induction h with
  | nil w => intro s hs; cases hs
  | @cons w v s ss h k ih =>
    intro t ht
    rcases List.mem_cons.mp ht with rfl | ht
    · exact b.1.th2 h
    · exact ih (b.aft h) t ht
theorem Path.thr {w v : Wk} {ss : List Sg} (h : Path w ss v) (b : BdT w) : Th (runD ss) := by
  refine sg_sum ?_ ?_
  · intro x hx; obtain ⟨s, hs, rfl⟩ := List.mem_map.mp hx; exact h.th2 b s hs
  · have : ss.length ≤ 1890 := runs_le b (q := (ss, v)) h
    rw [List.length_map]; omega
end K18
namespace K18
open PySem L2 Dl K17
local macro_rules | `(tactic| walk_at "ds") => `(tactic| repeat' with_reducible first
  | refine iVar (by with_unfolding_all rfl) ?_
  | refine iCons ?_
  | refine iNil ?_
  | refine iC ?_
  | refine iOp ?_
  | refine iSeq ?_
  | refine iAsg ?_
  | refine iGNm ?_
  | refine iTup ?_
  | refine iFrz ?_
  | refine iIfS ?_
  | refine iRet ?_
  | refine iCall ?_
  | refine iLst ?_
  | refine iNext ?_
  | refine iNeg ?_
  | refine isN_T ?_
  | refine isN_F (by with_unfolding_all rfl) ?_
  | refine iCallG ?_
  | refine iGTp (by with_unfolding_all rfl) ?_
  | refine iGsCons ?_
  | refine iGsNil ?_
  | refine lenOk (by with_unfolding_all rfl) ?_
  | refine frzEnd ?_
  | refine iTru ?_
  | refine truB ?_
  | refine iAndVK ?_
  | refine andVT ?_
  | refine andVF ?_
  | refine ifT ?_
  | refine ifF ?_
  | refine iCB ?_
  | refine iIsi ?_
  | refine eq_strT ?_
  | refine add_llb (by with_unfolding_all rfl) ?_
  | refine isi_T (by with_unfolding_all rfl) (by decide +kernel) ?_
  | refine isi_F (by with_unfolding_all rfl) (by decide +kernel) ?_
  | fail "stuck")
end K18
namespace K18
open PySem L2 Dl K17
local macro_rules | `(tactic| walk_at "ds") => `(tactic| repeat' with_reducible first
  | refine iVar (by with_unfolding_all rfl) ?_
  | refine iCons ?_
  | refine iNil ?_
  | refine iC ?_
  | refine iOp ?_
  | refine iSeq ?_
  | refine iAsg ?_
  | refine iGNm ?_
  | refine iTup ?_
  | refine iFrz ?_
  | refine iTst ?_
  | refine iIfS ?_
  | refine iRet ?_
  | refine iCall ?_
  | refine iLst ?_
  | refine iNext ?_
  | refine iNeg ?_
  | refine iRev ?_
  | refine revT ?_
  | refine iCallG ?_
  | refine iPar ?_
  | refine lenOk (by with_unfolding_all rfl) ?_
  | refine frzEnd ?_
  | refine slT ?_
  | refine lstC_t ?_
  | refine iTru ?_
  | refine truB ?_
  | refine iNot ?_
  | refine ifF ?_
  | refine iCB ?_
  | refine iSl ?_
  | refine iP ?_
  | refine iNoP ?_
  | refine iFor ?_
  | refine iISq ?_
  | refine rIx_i (by with_unfolding_all rfl) (by with_unfolding_all rfl) ?_
  | refine rIx_i (by with_unfolding_all rfl) atI_0 ?_
  | refine eq_strT ?_
  | refine ne_strT ?_
  | refine add_ii ?_
  | refine iIRg1 ?_
  | refine add_llb (by with_unfolding_all rfl) ?_
  | refine ifNT ?_
  | refine ifNF ?_
  | fail "stuck")
end K18
namespace K18
open PySem L2 Dl K17
local macro_rules | `(tactic| walk_at "ds") => `(tactic| repeat' with_reducible first
  | refine iVar (by with_unfolding_all rfl) ?_
  | refine iCons ?_
  | refine iNil ?_
  | refine iC ?_
  | refine iOp ?_
  | refine iSeq ?_
  | refine iAsg ?_
  | refine iGNm ?_
  | refine iFrz ?_
  | refine iIfS ?_
  | refine iRet ?_
  | refine iCall ?_
  | refine iLst ?_
  | refine iNext ?_
  | refine lenOk (by with_unfolding_all rfl) ?_
  | refine frzEnd ?_
  | refine slT ?_
  | refine lstC_t ?_
  | refine iTru ?_
  | refine truB ?_
  | refine iOr ?_
  | refine iNot ?_
  | refine iCB ?_
  | refine iSl ?_
  | refine iP ?_
  | refine iNoP ?_
  | refine iFor ?_
  | refine iISq ?_
  | refine iIRg1 ?_
  | refine add_llb (by with_unfolding_all rfl) ?_
  | refine add_ttb (by with_unfolding_all rfl) ?_
  | refine ifNT ?_
  | fail "stuck")
theorem forL {α : Type} (f : α → D) (xs : List α) {g : DTG} {tb : DTS} {E : DEnds} {J : DSt → GH → Prop} (h0 : ∀ ρ G, J ρ G → E.nx ρ G)
    (h : ∀ x ∈ xs, ∀ ρ G, J ρ G → ∀ K : DSt → GH → Prop, (∀ ρ' G', J ρ' G' → K ρ' G') → g (f x) ρ G fun ρ2 G2 => tb { E with nx := K, ct := K, bk := E.nx } ρ2 G2) :
    ∀ ρ G, J ρ G → dForGo okAll g tb (xs.map f) E ρ G := by
  intro ρ G j
  refine dForGo_of (I := fun rest ρ G => ∃ rs, rest = rs.map f ∧ (∀ x ∈ rs, x ∈ xs) ∧ J ρ G) ?_ ?_ _ _ _ ⟨xs, rfl, fun _ h => h, j⟩
  · rintro ρ G ⟨rs, -, -, j⟩; exact ⟨trivial, h0 ρ G j⟩
  · rintro x rest ρ G ⟨rs, e, m, j⟩ K hK
    cases rs with
    | nil => cases e
    | cons r rs =>
      injection e with e1 e2
      subst e1 e2
      exact ⟨trivial, h r (m r (List.mem_cons_self ..)) ρ G j K fun ρ' G' j' => hK ρ' G' ⟨rs, rfl, fun y hy => m y (List.mem_cons_of_mem _ hy), j'⟩⟩
end K18
namespace K24
open PySem L2 Dl K17 K18
local macro_rules | `(tactic| walk_at "ds") => `(tactic| repeat' with_reducible first
  | fail "stuck")
def tkS : Sg → Bool
  | .tick => true
  | .left s => tkS s
  | .right s => tkS s
  | _ => false
def nsS : Sg → Nat
  | .left s => nsS s + 1
  | .right s => nsS s + 1
  | _ => 0
def cntS (ss : List Sg) : Nat := (ss.filter tkS).length
theorem cntS_app (a b : List Sg) : cntS (a ++ b) = cntS a + cntS b := by unfold cntS; simp
theorem cntS_le (ss : List Sg) : cntS ss ≤ ss.length := by unfold cntS; exact List.length_filter_le ..
def minL : List Int → Int
  | [] => 0
  | x :: l => l.foldl (fun a b => if b < a then b else a) x
def maxL : List Int → Int
  | [] => 0
  | x :: l => l.foldl (fun a b => if a < b then b else a) x
theorem minF (l : List Int) : ∀ x : Int, (l.foldl (fun a b => if b < a then b else a) x ∈ x :: l) ∧ ∀ y ∈ x :: l, l.foldl (fun a b => if b < a then b else a) x ≤ y := by
  induction l with
  | nil => intro x; simp
  | cons z l ih =>
    intro x
    obtain ⟨h1, h2⟩ := ih (if z < x then z else x)
    rw [List.foldl_cons]
    refine ⟨?_, fun y hy => ?_⟩
    · rcases List.mem_cons.mp h1 with q | q
      · rw [q]; split <;> simp
      · exact List.mem_cons_of_mem _ (List.mem_cons_of_mem _ q)
    · have h3 := h2 (if z < x then z else x) (List.mem_cons_self ..)
      have h4 : (if z < x then z else x) ≤ x ∧ (if z < x then z else x) ≤ z := by split <;> omega
      rcases List.mem_cons.mp hy with rfl | hy
      · omega
      · rcases List.mem_cons.mp hy with rfl | hy
        · omega
        · exact h2 y (List.mem_cons_of_mem _ hy)
theorem maxF (l : List Int) : ∀ x : Int, (l.foldl (fun a b => if a < b then b else a) x ∈ x :: l) ∧ ∀ y ∈ x :: l, y ≤ l.foldl (fun a b => if a < b then b else a) x := by
  induction l with
  | nil => intro x; simp
  | cons z l ih =>
    intro x
    obtain ⟨h1, h2⟩ := ih (if x < z then z else x)
    rw [List.foldl_cons]
    refine ⟨?_, fun y hy => ?_⟩
    · rcases List.mem_cons.mp h1 with q | q
      · rw [q]; split <;> simp
      · exact List.mem_cons_of_mem _ (List.mem_cons_of_mem _ q)
    · have h3 := h2 (if x < z then z else x) (List.mem_cons_self ..)
      have h4 : x ≤ (if x < z then z else x) ∧ z ≤ (if x < z then z else x) := by split <;> omega
      rcases List.mem_cons.mp hy with rfl | hy
      · omega
      · rcases List.mem_cons.mp hy with rfl | hy
        · omega
        · exact h2 y (List.mem_cons_of_mem _ hy)
theorem minL_mem {l : List Int} (h : l ≠ []) : minL l ∈ l := by cases l with
  | nil => exact absurd rfl h
  | cons x l => exact (minF l x).1
theorem minL_le {l : List Int} {y : Int} (h : y ∈ l) : minL l ≤ y := by cases l with
  | nil => cases h
  | cons x l => exact (minF l x).2 y h
theorem maxL_le {l : List Int} {y : Int} (h : y ∈ l) : y ≤ maxL l := by cases l with
  | nil => cases h
  | cons x l => exact (maxF l x).2 y h
theorem min_uni {l : List Int} {m : Int} (h : m ∈ l) (k : ∀ y, y ∈ l → m ≤ y) : m = minL l := by
  have h1 := k _ (minL_mem (List.ne_nil_of_mem h))
  have h2 := minL_le h
  omega
mutual
def lsW : Wk → Int
  | .tick n => n
  | .sme a _ _ => a
  | .lop a _ _ w => a * lsW w
  | .eit ws => minL (lsWs ws)
  | .row ws => (lsWs ws).sum
  | .bes a b => lsW a + lsW b
def lsWs : List Wk → List Int
  | [] => []
  | w :: ws => lsW w :: lsWs ws
end
mutual
def gtW : Wk → Int
  | .tick n => n
  | .sme _ b _ => b
  | .lop _ b _ w => b * gtW w
  | .eit ws => maxL (gtWs ws)
  | .row ws => (gtWs ws).sum
  | .bes a b => gtW a + gtW b
def gtWs : List Wk → List Int
  | [] => []
  | w :: ws => gtW w :: gtWs ws
end
theorem lsWs_map : ∀ ws : List Wk, lsWs ws = ws.map lsW
  | [] => by simp [lsWs]
  | w :: ws => by simp [lsWs, lsWs_map ws]
theorem gtWs_map : ∀ ws : List Wk, gtWs ws = ws.map gtW
  | [] => by simp [gtWs]
  | w :: ws => by simp [gtWs, gtWs_map ws]
mutual
theorem ends_ok {B : Int} : ∀ w : Wk, okW B w → 0 ≤ lsW w ∧ lsW w ≤ gtW w
  | .tick n, h => by rw [okW] at h; rw [lsW, gtW]; exact ⟨by omega, by omega⟩
  | .sme a b t, h => by rw [okW] at h; rw [lsW, gtW]; exact ⟨by omega, by omega⟩
  | .lop a b t w, h => by
    rw [okW] at h; rw [lsW, gtW]
    obtain ⟨h1, h2⟩ := ends_ok w h.2.2.2
    exact ⟨Int.mul_nonneg h.1 h1, Int.mul_le_mul h.2.1 h2 h1 (by omega)⟩
  | .eit ws, h => by
    rw [okW] at h; rw [lsW, gtW]
    have h1 := endss_ok ws h.2
    have hn : lsWs ws ≠ [] := by rw [lsWs_map]; simpa using h.1
    have := minL_mem hn
    rw [lsWs_map] at this
    obtain ⟨w, hw, e⟩ := List.mem_map.mp this
    have e2 := maxL_le (l := gtWs ws) (y := gtW w) (by rw [gtWs_map]; exact List.mem_map.mpr ⟨w, hw, rfl⟩)
    have := h1.1 w hw
    rw [lsWs_map, ← e]
    omega
  | .row ws, h => by
    rw [okW] at h; rw [lsW, gtW]
    exact (endss_ok ws h).2
  | .bes a b, h => by
    rw [okW] at h; rw [lsW, gtW]
    have h1 := ends_ok a h.1
    have h2 := ends_ok b h.2
    omega
theorem endss_ok {B : Int} : ∀ ws : List Wk, okWs B ws → (∀ w ∈ ws, 0 ≤ lsW w ∧ lsW w ≤ gtW w) ∧ 0 ≤ (lsWs ws).sum ∧ (lsWs ws).sum ≤ (gtWs ws).sum
  | [], _ => by simp [lsWs, gtWs]
  | w :: ws, h => by
    rw [okWs] at h
    have h1 := ends_ok w h.1
    have h2 := endss_ok ws h.2
    refine ⟨fun x hx => ?_, ?_⟩
    · rcases List.mem_cons.mp hx with rfl | hx
      · exact h1
      · exact h2.1 x hx
    · simp only [lsWs, gtWs, List.sum_cons]; omega
end
theorem over_of {w : Wk} (h : isOver w = true) : w = .row [] := by
  cases w with
  | row ws => cases ws with
    | nil => rfl
    | cons => simp [isOver] at h
  | _ => simp [isOver] at h
def tk1 (s : Sg) : Int := if tkS s = true then 1 else 0
end K24
namespace K24
open PySem L2 Dl K17 K18
local macro_rules | `(tactic| walk_at "ds") => `(tactic| repeat' with_reducible first
  | refine iVar (by with_unfolding_all rfl) ?_
  | refine iCons ?_
  | refine iNil ?_
  | refine iC ?_
  | refine iOp ?_
  | refine iSeq ?_
  | refine iAsg ?_
  | refine iGNm ?_
  | refine iTup ?_
  | refine iFrz ?_
  | refine iTst ?_
  | refine iIfS ?_
  | refine iRet ?_
  | refine iCall ?_
  | refine iNext ?_
  | refine lenOk (by with_unfolding_all rfl) ?_
  | refine iTru ?_
  | refine truB ?_
  | refine iIf ?_
  | refine ifT ?_
  | refine ifF ?_
  | refine iCB ?_
  | refine iIsi ?_
  | refine iMatch ?_
  | refine iISq ?_
  | refine rIx_i (by with_unfolding_all rfl) (by with_unfolding_all rfl) ?_
  | refine rIx_i (by with_unfolding_all rfl) atI_0 ?_
  | refine eq_strT ?_
  | refine eq_strF (by with_unfolding_all rfl) ?_
  | refine caT ?_
  | refine caF (by with_unfolding_all rfl) ?_
  | refine caN ?_
  | refine add_ii ?_
  | refine len_l ?_
  | refine intC_b ?_
  | refine inn_T (by with_unfolding_all rfl) (by decide +kernel) (by decide +kernel) (by decide +kernel) ?_
  | refine inn_F (by with_unfolding_all rfl) (by decide +kernel) (by decide +kernel) (by decide +kernel) ?_
  | refine isi_T (by with_unfolding_all rfl) (by decide +kernel) ?_
  | refine isi_F (by with_unfolding_all rfl) (by decide +kernel) ?_
  | fail "stuck")
theorem intsD_map : ∀ ns : List Int, intsD (ns.map D.int) = some ns
  | [] => rfl
  | n :: ns => by simp only [List.map_cons, intsD, intsD_map ns, Option.map_some]
theorem ints_i {ns : List Int} {G : GH} {P : List Int → Prop} (h : P ns) : intsP G (.lst (ns.map D.int)) P := by
  unfold intsP lsOf
  dsimp only
  rw [intsD_map]
  exact h
theorem sum_i {ns : List Int} {G : GH} {Q : DK} (h : Q (.int ns.sum) G) : rSumC [.lst (ns.map D.int)] G Q := ints_i (G := G) (P := fun ns => Q (.int ns.sum) G) h
theorem min_i {ns : List Int} {G : GH} {Q : DK} (hn : ns ≠ []) (h : Q (.int (minL ns)) G) : rMinC [.lst (ns.map D.int)] G Q :=
  ints_i (G := G) (P := fun ns => 0 < ns.length ∧ ∀ m, m ∈ ns → (∀ y, y ∈ ns → m ≤ y) → Q (.int m) G) ⟨List.length_pos_iff.mpr hn, fun m h1 h2 => by rw [min_uni h1 h2]; exact h⟩
def RTk : List D → D → Prop := fun ds d => ∃ s, ds = [sgD s] ∧ depD (sgD s) ≤ 60 ∧ d = .bl (tkS s)
theorem is_tick_rd : ∀ ds G Q E, pSp RTk ds G Q E → r_is_tick { nx := fun _ G' => Q .non G', rt := Q } (startD 1 ds) G := by
  rintro ds G Q E ⟨d, ⟨s, rfl, hd, rfl⟩, hq⟩
  unfold r_is_tick
  refine iSeq ?_
  refine dWhile_of (I := fun n ρ G1 => ∃ t, nsS t = n ∧ ρ = [some (sgD t)] ∧ tkS t = tkS s ∧ depD (sgD t) ≤ 60 ∧ G1 = G) ?_ (nsS s) _ _ ⟨s, rfl, rfl, rfl, hd, rfl⟩
  rintro n ρ G1 ⟨t, ht, rfl, hk, hd, rfl⟩ K hK
  have e := hq G1 (Grow.refl _)
  rw [← hk] at e
  have so : okD (.str "tick") := ⟨by simp [pureD, so_tick], by simp [depD]⟩
  cases t with
  | tick =>
    simp only [sgD]; walk_at "ds"
    refine ixA_s (c := 116) (by decide) (by decide +kernel) ?_
    walk_at "ds"
    exact e
  | more =>
    simp only [sgD]; walk_at "ds"
    refine ixA_s (c := 109) (by decide) (by decide +kernel) ?_
    walk_at "ds"
    exact e
  | fin =>
    simp only [sgD]; walk_at "ds"
    refine ixA_s (c := 101) (by decide) (by decide +kernel) ?_
    walk_at "ds"
    exact e
  | many m =>
    simp only [sgD]; walk_at "ds"
    refine ixA_t atI_0 ?_
    walk_at "ds"
    refine eq_ts ⟨by simp [pureD, pureDs, so_many], by simp [depD, depDs]⟩ so ?_
    exact e
  | way m =>
    simp only [sgD]; walk_at "ds"
    refine ixA_t atI_0 ?_
    walk_at "ds"
    refine eq_ts ⟨by simp [pureD, pureDs, so_way], by simp [depD, depDs]⟩ so ?_
    exact e
  | left t =>
    simp only [sgD, depD, depDs] at hd
    simp only [sgD]; walk_at "ds"
    refine ixA_t atI_0 ?_
    walk_at "ds"
    refine ixA_t atI_1 ?_
    walk_at "ds"
    exact hK (nsS t) (by rw [← ht]; rfl) _ _ ⟨t, rfl, rfl, hk, by omega, rfl⟩
  | right t =>
    simp only [sgD, depD, depDs] at hd
    simp only [sgD]; walk_at "ds"
    refine ixA_t atI_0 ?_
    walk_at "ds"
    refine ixA_t atI_1 ?_
    walk_at "ds"
    exact hK (nsS t) (by rw [← ht]; rfl) _ _ ⟨t, rfl, rfl, hk, by omega, rfl⟩
structure Row (ss : List Sg) : Prop where
  dp : ∀ s ∈ ss, depD (sgD s) ≤ 38
  len : ss.length ≤ 100000
def RIt (n : Nat) : List D → D → Prop := fun ds d => ∃ s, ds = [sgD s] ∧ depD (sgD s) < n ∧ d = .int (tk1 s)
theorem law_is_tick_rd {n : Nat} : ∀ ds G Q E, pSp (RIt (n + 1)) ds G Q E → r_law_is_tick (pSp (RIt n)) { nx := fun _ G' => Q .non G', rt := Q } (startD 1 ds) G := by
  rintro ds G Q E ⟨d, ⟨s, rfl, hd, rfl⟩, hq⟩
  unfold r_law_is_tick
  cases s with
  | tick => simp only [sgD]; walk_at "ds"; exact hq _ (Grow.refl _)
  | more => simp only [sgD]; walk_at "ds"; exact hq _ (Grow.refl _)
  | fin => simp only [sgD]; walk_at "ds"; exact hq _ (Grow.refl _)
  | many m => simp only [sgD]; walk_at "ds"; exact hq _ (Grow.refl _)
  | way m => simp only [sgD]; walk_at "ds"; exact hq _ (Grow.refl _)
  | left s =>
    simp only [sgD, depD, depDs] at hd
    simp only [sgD]; walk_at "ds"
    exact ⟨_, ⟨s, rfl, by omega, rfl⟩, hq⟩
  | right s =>
    simp only [sgD, depD, depDs] at hd
    simp only [sgD]; walk_at "ds"
    exact ⟨_, ⟨s, rfl, by omega, rfl⟩, hq⟩
end K24
namespace K20
open PySem L2 Dl K17 K18 K24
local macro_rules | `(tactic| walk_at "ds") => `(tactic| repeat' with_reducible first
  | fail "stuck")
def sumN (P : Int → Prop) : Nat → Int → Prop
  | 0, k => k = 0
  | n + 1, k => ∃ i j, sumN P n i ∧ P j ∧ k = i + j
mutual
def TS : Wk → Int → Prop
  | .tick n, k => k = n
  | .sme a b _, k => a ≤ k ∧ k ≤ b
  | .lop a b _ w, k => ∃ m : Nat, a ≤ m ∧ (m : Int) ≤ b ∧ sumN (TS w) m k
  | .eit ws, k => TE ws k
  | .row ws, k => TR ws k
  | .bes a b, k => ∃ i j, TS a i ∧ TS b j ∧ k = i + j
def TE : List Wk → Int → Prop
  | [], _ => False
  | w :: ws, k => TS w k ∨ TE ws k
def TR : List Wk → Int → Prop
  | [], k => k = 0
  | w :: ws, k => ∃ i j, TS w i ∧ TR ws j ∧ k = i + j
end
theorem TE_iff : ∀ {ws : List Wk} {k : Int}, TE ws k ↔ ∃ w ∈ ws, TS w k
  | [], k => by simp [TE]
  | w :: ws, k => by simp [TE, TE_iff (ws := ws)]
theorem sumN_bd {P : Int → Prop} {lo hi : Int} (h : ∀ k, P k → lo ≤ k ∧ k ≤ hi) : ∀ (n : Nat) (k : Int), sumN P n k → n * lo ≤ k ∧ k ≤ n * hi
  | 0, k, e => by rw [sumN] at e; subst e; simp
  | n + 1, k, e => by
    rw [sumN] at e
    obtain ⟨i, j, h1, h2, rfl⟩ := e
    have a := sumN_bd h n i h1
    have b := h j h2
    have e1 : ((n + 1 : Nat) : Int) * lo = n * lo + lo := by rw [Int.natCast_add, Int.add_mul]; simp
    have e2 : ((n + 1 : Nat) : Int) * hi = n * hi + hi := by rw [Int.natCast_add, Int.add_mul]; simp
    omega
mutual
theorem ts_bd {B : Int} : ∀ w : Wk, okW B w → ∀ k, TS w k → lsW w ≤ k ∧ k ≤ gtW w
  | .tick n, h, k, e => by rw [TS] at e; rw [lsW, gtW]; omega
  | .sme a b t, h, k, e => by rw [TS] at e; rw [lsW, gtW]; exact e
  | .lop a b t w, h, k, e => by
    rw [okW] at h
    rw [TS] at e
    obtain ⟨m, h1, h2, h3⟩ := e
    have hs := sumN_bd (ts_bd w h.2.2.2) m k h3
    have he := ends_ok w h.2.2.2
    rw [lsW, gtW]
    have k1 := Int.mul_le_mul_of_nonneg_right h1 he.1
    have k2 := Int.mul_le_mul_of_nonneg_right h2 (show 0 ≤ gtW w by omega)
    omega
  | .eit ws, h, k, e => by
    rw [okW] at h
    rw [TS] at e
    obtain ⟨w, hw, e⟩ := TE_iff.mp e
    have := tss_bd ws h.2 w hw k e
    have h1 := minL_le (l := lsWs ws) (y := lsW w) (by rw [lsWs_map]; exact List.mem_map.mpr ⟨w, hw, rfl⟩)
    have h2 := maxL_le (l := gtWs ws) (y := gtW w) (by rw [gtWs_map]; exact List.mem_map.mpr ⟨w, hw, rfl⟩)
    rw [lsW, gtW]; omega
  | .row ws, h, k, e => by
    rw [okW] at h
    rw [TS] at e
    rw [lsW, gtW]
    exact tr_bd ws h k e
  | .bes a b, h, k, e => by
    rw [okW] at h
    rw [TS] at e
    obtain ⟨i, j, h1, h2, rfl⟩ := e
    have := ts_bd a h.1 i h1
    have := ts_bd b h.2 j h2
    rw [lsW, gtW]; omega
theorem tss_bd {B : Int} : ∀ ws : List Wk, okWs B ws → ∀ w ∈ ws, ∀ k, TS w k → lsW w ≤ k ∧ k ≤ gtW w
  | [], _, w, hw, _, _ => by cases hw
  | v :: ws, h, w, hw, k, e => by
    rw [okWs] at h
    rcases List.mem_cons.mp hw with q | q
    · rw [q] at e ⊢; exact ts_bd v h.1 k e
    · exact tss_bd ws h.2 w q k e
theorem tr_bd {B : Int} : ∀ ws : List Wk, okWs B ws → ∀ k, TR ws k → (lsWs ws).sum ≤ k ∧ k ≤ (gtWs ws).sum
  | [], _, k, e => by rw [TR] at e; subst e; simp [lsWs, gtWs]
  | w :: ws, h, k, e => by
    rw [okWs] at h
    rw [TR] at e
    obtain ⟨i, j, h1, h2, rfl⟩ := e
    have := ts_bd w h.1 i h1
    have := tr_bd ws h.2 j h2
    simp only [lsWs, gtWs, List.sum_cons]; omega
end
mutual
def fitW : Wk → Prop
  | .tick n => n ≤ 120
  | .sme _ b _ => b ≤ 120
  | .lop _ b _ w => b * gtW w ≤ 120 ∧ fitW w
  | .eit ws => ws.length ≤ 12 ∧ fitWs ws
  | .row ws => (gtWs ws).sum ≤ 120 ∧ fitWs ws
  | .bes a b => gtW a + gtW b ≤ 120 ∧ fitW a ∧ fitW b
def fitWs : List Wk → Prop
  | [] => True
  | w :: ws => fitW w ∧ fitWs ws
end
structure Ft (n : Nat) (w : Wk) : Prop where
  ok : okW 12 w
  z : zW w ≤ 10000
  dp : dpW w ≤ n
  fit : fitW w
theorem Ft.bd {n : Nat} {w : Wk} (h : Ft n w) : ∀ k, TS w k → 0 ≤ k ∧ k ≤ gtW w := fun k e => by
  have := ts_bd w h.ok k e
  have := ends_ok w h.ok
  omega
end K20
namespace K20
open PySem L2 Dl K17 K18 K24
local macro_rules | `(tactic| walk_at "ds") => `(tactic| repeat' with_reducible first
  | refine iVar (by with_unfolding_all rfl) ?_
  | refine iCons ?_
  | refine iNil ?_
  | refine iC ?_
  | refine iOp ?_
  | refine iSeq ?_
  | refine iAsg ?_
  | refine iGNm ?_
  | refine iFrz ?_
  | refine iTst ?_
  | refine iIfS ?_
  | refine iRet ?_
  | refine iCall ?_
  | refine iLst ?_
  | refine iNext ?_
  | refine lstP_i (by assumption) ?_
  | refine lstP_i updG_same ?_
  | refine iDrop ?_
  | refine lenOk (by with_unfolding_all rfl) ?_
  | refine frzEnd ?_
  | refine iMt ?_
  | refine iFor ?_
  | refine iISq ?_
  | refine add_ii ?_
  | refine int0 ?_
  | refine iIRg1 ?_
  | fail "stuck")
end K20
namespace K20
open PySem L2 Dl K17 K18 K24
local macro_rules | `(tactic| walk_at "ds") => `(tactic| repeat' with_reducible first
  | refine iVar (by with_unfolding_all rfl) ?_
  | refine iCons ?_
  | refine iNil ?_
  | refine iC ?_
  | refine iOp ?_
  | refine iSeq ?_
  | refine iAsg ?_
  | refine iGNm ?_
  | refine iFrz ?_
  | refine iRet ?_
  | refine iCall ?_
  | refine iLst ?_
  | refine iDrop ?_
  | refine lenOk (by with_unfolding_all rfl) ?_
  | refine frzEnd ?_
  | refine iCB ?_
  | refine iMatch ?_
  | refine iFor ?_
  | refine iISq ?_
  | refine rIx_i (by with_unfolding_all rfl) (by with_unfolding_all rfl) ?_
  | refine rIx_i (by with_unfolding_all rfl) atI_0 ?_
  | refine caT ?_
  | refine caF (by with_unfolding_all rfl) ?_
  | refine caN ?_
  | refine add_ii ?_
  | refine tupC_l ?_
  | fail "stuck")
def RTi : List D → D → Prop := fun ds d => ∃ ss : List Sg, ds = [runD ss] ∧ Row ss ∧ (ss.map sgD).all isSgB = true ∧ (∀ x ∈ ss.map sgD, Th x) ∧ d = .int (cntS ss)
end K20
namespace K20
open PySem L2 Dl K17 K18 K24
local macro_rules | `(tactic| walk_at "ds") => `(tactic| repeat' with_reducible first
  | refine iVar (by with_unfolding_all rfl) ?_
  | refine iCons ?_
  | refine iNil ?_
  | refine iC ?_
  | refine iOp ?_
  | refine iSeq ?_
  | refine iAsg ?_
  | refine iGNm ?_
  | refine iFrz ?_
  | refine iRet ?_
  | refine iLst ?_
  | refine lstP_i (by assumption) ?_
  | refine lstP_i updG_same ?_
  | refine iDrop ?_
  | refine lenOk (by with_unfolding_all rfl) ?_
  | refine frzEnd ?_
  | refine iMt ?_
  | refine iFor ?_
  | refine iISq ?_
  | refine add_ii ?_
  | fail "stuck")
end K20
namespace K20
open PySem L2 Dl K17 K18 K24
local macro_rules | `(tactic| walk_at "ds") => `(tactic| repeat' with_reducible first
  | refine iVar (by with_unfolding_all rfl) ?_
  | refine iCons ?_
  | refine iNil ?_
  | refine iC ?_
  | refine iOp ?_
  | refine iSeq ?_
  | refine iAsg ?_
  | refine iGNm ?_
  | refine iFrz ?_
  | refine iTst ?_
  | refine iIfS ?_
  | refine iRet ?_
  | refine iCall ?_
  | refine iLst ?_
  | refine iNext ?_
  | refine lstP_i (by assumption) ?_
  | refine lstP_i updG_same ?_
  | refine iDrop ?_
  | refine lenOk (by with_unfolding_all rfl) ?_
  | refine frzEnd ?_
  | refine ifT ?_
  | refine ifF ?_
  | refine iMt ?_
  | refine iFor ?_
  | refine iISq ?_
  | refine rIx_i (by with_unfolding_all rfl) (by with_unfolding_all rfl) ?_
  | refine rIx_i (by with_unfolding_all rfl) atI_0 ?_
  | refine eq_strT ?_
  | refine eq_strF (by with_unfolding_all rfl) ?_
  | refine add_ii ?_
  | refine iIRg2 ?_
  | fail "stuck")
end K20
namespace KJ
open PySem L2 Dl K17
local macro_rules | `(tactic| walk_at "ds") => `(tactic| repeat' with_reducible first
  | refine iVar (by with_unfolding_all rfl) ?_
  | refine iCons ?_
  | refine iNil ?_
  | refine iC ?_
  | refine iOp ?_
  | refine iSeq ?_
  | refine iAsg ?_
  | refine iGNm ?_
  | refine iTup ?_
  | refine iFrz ?_
  | refine iTst ?_
  | refine iIfS ?_
  | refine iRet ?_
  | refine iCall ?_
  | refine iNext ?_
  | refine iPar ?_
  | refine iGTp (by with_unfolding_all rfl) ?_
  | refine iGsCons ?_
  | refine iGsNil ?_
  | refine iGSb ?_
  | refine lenOk (by with_unfolding_all rfl) ?_
  | refine iTru ?_
  | refine truB ?_
  | refine iAnd ?_
  | refine iOr ?_
  | refine iNot ?_
  | refine iAndVK ?_
  | refine andVT ?_
  | refine andVF ?_
  | refine andVDT (by decide) ?_
  | refine andVDF (by decide) ?_
  | refine ifDT (by decide) ?_
  | refine ifDF (by decide) ?_
  | refine iNotV ?_
  | refine iIf ?_
  | refine ifT ?_
  | refine ifF ?_
  | refine iCB ?_
  | refine rIx_i (by with_unfolding_all rfl) (by with_unfolding_all rfl) ?_
  | refine rIx_i (by with_unfolding_all rfl) atI_0 ?_
  | refine eq_ii ?_
  | refine add_ii ?_
  | refine int0 ?_
  | refine tupC_l ?_
  | refine min2_ii ?_
  | refine iIRg1 ?_
  | refine inn_T (by with_unfolding_all rfl) (by decide +kernel) (by decide +kernel) (by decide +kernel) ?_
  | refine inn_F (by with_unfolding_all rfl) (by decide +kernel) (by decide +kernel) (by decide +kernel) ?_
  | fail "stuck")
structure JobCl (J : Nat → Wk → Prop) : Prop where
  tick : ∀ {n : Nat} {m : Int}, 1 ≤ m → m ≤ 3 → J n (.tick m)
  sme : ∀ {n : Nat} {a b : Int} {t : Bool}, 0 ≤ a → a ≤ b → b ≤ 3 → J n (.sme a b t)
  lop : ∀ {n : Nat} {a b : Int} {t : Bool} {w : Wk}, 0 ≤ a → a ≤ b → b ≤ 3 → J n w → J (n + 1) (.lop a b t w)
  row : ∀ {n : Nat} {ws : List Wk}, (∀ w ∈ ws, J n w) → ws.length ≤ 3 → J (n + 1) (.row ws)
  eit : ∀ {n : Nat} {ws : List Wk}, (∀ w ∈ ws, J n w) → ws.length ≤ 3 → ws ≠ [] → J (n + 1) (.eit ws)
  bes : ∀ {n : Nat} {a b : Wk}, J n a → J n b → J (n + 1) (.bes a b)
def spJob (J : Nat → Wk → Prop) (n : Nat) : DSp := fun ds G Q _ => ∃ a b dp, ds = [.ref a, .int dp, .ref b] ∧ a ≠ b ∧ 0 ≤ dp ∧ dp < n ∧ FeedOk G a ∧ SpareOk G b ∧
  ∀ w G', J dp.toNat w → FeedOk G' a → SpareOk G' b → KeepY a b G G' → Q (toD w) G'
theorem job_lc {J : Nat → Wk → Prop} {n : Nat} {a b : Addr} {dp many : Int} {x3 x4 x6 : Option D} {G : GH} {K : DK} (hab : a ≠ b) (h0 : 0 < dp) (hn : dp < n + 1) (hm : 0 ≤ many) (hm2 : many ≤ 3) (hf : FeedOk G a) (hs : SpareOk G b)
    (hK : ∀ ws G', (∀ w ∈ ws, J (dp - 1).toNat w) → ws.length = many.toNat → FeedOk G' a → SpareOk G' b → KeepY a b G G' → K (.lst (toDs ws)) G') :
    dLc (iRg1 (dCons (dVar 5) dNil)) (.one 8) dYes (dCall (spJob J n) (dCons (dVar 0) (dCons (dOp rSub (dVar 1) (dC (.int 1))) (dCons (dVar 2) dNil)))) [8] [some (.ref a), some (.int dp), some (.ref b), x3, x4, some (.int many), x6, none, none] G (frzK K) := by
  refine iLc ?_
  walk_at "ds"
  refine ⟨by omega, by omega, ?_⟩
  intro p hp
  have hpa : a ≠ p := by rintro rfl; obtain ⟨_, _, _, _, e⟩ := hf; rw [hp] at e; cases e
  have hpb : b ≠ p := by rintro rfl; obtain ⟨_, _, e⟩ := hs; rw [hp] at e; cases e
  refine dLcGo_of (I := fun rest acc G' => ∃ ws, acc = toDs ws ∧ (∀ w ∈ ws, J (dp - 1).toNat w) ∧ ws.length + rest.length = many.toNat ∧ FeedOk G' a ∧ SpareOk G' b ∧ KeepY a b G G' ∧ G' p = some (.lst acc)) ?_ ?_ _ [] _ ?_
  · rintro acc G' ⟨ws, rfl, hw, hl, f, s, k, ep⟩
    refine ⟨trivial, frzR ep ?_⟩
    refine hK ws _ hw (by simpa using hl) ?_ ?_ ?_
    · obtain ⟨c, x, y, z, e⟩ := f; exact ⟨c, x, y, z, by rw [dropG_ne hpa]; exact e⟩
    · obtain ⟨x, y, e⟩ := s; exact ⟨x, y, by rw [dropG_ne hpb]; exact e⟩
    · intro c o n1 n2 e
      have hc : c ≠ p := by rintro rfl; rw [hp] at e; cases e
      rw [dropG_ne hc]; exact k c o n1 n2 e
  · rintro x xs acc G' ⟨ws, rfl, hw, hl, f, s, k, ep⟩
    refine ⟨trivial, _, rfl, fun K2 hK2 => ?_⟩
    rw [List.length_cons] at hl
    walk_at "ds"
    refine ⟨a, b, dp - 1, rfl, hab, by omega, by omega, f, s, fun w G2 jw f2 s2 k2 => ?_⟩
    refine hK2 _ G2 (k2 _ _ hpa.symm hpb.symm ep) (by rw [toDs_len, sizeL]; omega) ⟨ws ++ [w], by rw [toDs_app, toDs, toDs], ?_, by rw [List.length_append, List.length_singleton]; omega, ?_, ?_, ?_, updG_same⟩
    · intro v hv
      rcases List.mem_append.mp hv with q | q
      · exact hw v q
      · rw [List.mem_singleton] at q; subst q; exact jw
    · obtain ⟨c, x, y, z, e⟩ := f2; exact ⟨c, x, y, z, by rw [updG_ne hpa]; exact e⟩
    · obtain ⟨x, y, e⟩ := s2; exact ⟨x, y, by rw [updG_ne hpb]; exact e⟩
    · intro c o n1 n2 e
      have hc : c ≠ p := by rintro rfl; rw [hp] at e; cases e
      rw [updG_ne hc]; exact k2 c o n1 n2 (k c o n1 n2 e)
  · refine ⟨[], by rw [toDs], (fun w hw => by cases hw), by simp [rngD], ?_, ?_, ?_, updG_same⟩
    · obtain ⟨c, x, y, z, e⟩ := hf; exact ⟨c, x, y, z, by rw [updG_ne hpa]; exact e⟩
    · obtain ⟨x, y, e⟩ := hs; exact ⟨x, y, by rw [updG_ne hpb]; exact e⟩
    · intro c o n1 n2 e
      have hc : c ≠ p := by rintro rfl; rw [hp] at e; cases e
      rw [updG_ne hc]; exact e
theorem law_job_rd {J : Nat → Wk → Prop} (C : JobCl J) {n : Nat} : ∀ ds G Q E, spJob J (n + 1) ds G Q E → r_law_job spDraw (spJob J n) { nx := fun _ G' => Q .non G', rt := Q } (startD 9 ds) G := by
  rintro ds G Q E ⟨a, b, dp, rfl, hab, h0, hn, hf, ⟨s, t, es⟩, hq⟩
  unfold r_law_job
  refine seqC (fun ρ G1 => ∃ r : Int, ρ = [some (.ref a), some (.int dp), some (.ref b), some (.int r), none, none, none, none, none] ∧ 0 ≤ r ∧ r < 9 ∧ (r < 3 ∨ (0 < dp ∧ 1 < s)) ∧ FeedOk G1 a ∧ KeepX a G G1) ?_ ?_
  · intro K hK
    walk_at "ds"
    refine ifD (fun h => ?_) (fun h => ?_)
    · walk_at "ds"
      refine rIx_r es atI_0 ?_
      walk_at "ds"
      refine ifD (fun h1 => ?_) (fun h1 => ?_)
      · walk_at "ds"
        refine ⟨a, 9, rfl, by decide, by decide, hf, fun r G1 r0 r1 f1 k1 => ?_⟩
        walk_at "ds"
        exact hK _ _ ⟨r, rfl, r0, r1, .inr ⟨h, h1⟩, f1, k1⟩
      · walk_at "ds"
        refine ⟨a, 3, rfl, by decide, by decide, hf, fun r G1 r0 r1 f1 k1 => ?_⟩
        walk_at "ds"
        exact hK _ _ ⟨r, rfl, r0, by omega, .inl r1, f1, k1⟩
    · walk_at "ds"
      refine ⟨a, 3, rfl, by decide, by decide, hf, fun r G1 r0 r1 f1 k1 => ?_⟩
      walk_at "ds"
      exact hK _ _ ⟨r, rfl, r0, by omega, .inl r1, f1, k1⟩
  rintro ρ G1 ⟨r, rfl, r0, r9, hr, f1, k1⟩
  walk_at "ds"
  refine ⟨a, 2, rfl, by decide, by decide, f1, fun l G2 l0 l1 f2 k2 => ?_⟩
  have K2 := k1.trans k2
  have ES := K2 b _ hab.symm es
  obtain ⟨m, hm⟩ : ∃ m : Nat, dp.toNat = m := ⟨_, rfl⟩
  rw [hm] at hq
  have rr : r = 0 ∨ r = 1 ∨ r = 2 ∨ (3 ≤ r ∧ 0 < dp ∧ 1 < s) := by omega
  rcases rr with rfl | rfl | rfl | ⟨r3, hdp, hs1⟩
  · walk_at "ds"
    refine ⟨a, 3, rfl, by decide, by decide, f2, fun q G3 q0 q1 f3 k3 => ?_⟩
    walk_at "ds"
    exact hq (.tick (1 + q)) _ (C.tick (by omega) (by omega)) f3 ⟨s, t, k3 b _ hab.symm ES⟩ (KeepY.of (K2.trans k3))
  · walk_at "ds"
    refine ⟨a, 3, rfl, by decide, by decide, f2, fun q G3 q0 q1 f3 k3 => ?_⟩
    walk_at "ds"
    exact hq (.sme l (l + q) true) _ (C.sme (by omega) (by omega) (by omega)) f3 ⟨s, t, k3 b _ hab.symm ES⟩ (KeepY.of (K2.trans k3))
  · walk_at "ds"
    refine ⟨a, 3, rfl, by decide, by decide, f2, fun q G3 q0 q1 f3 k3 => ?_⟩
    walk_at "ds"
    exact hq (.sme l (l + q) false) _ (C.sme (by omega) (by omega) (by omega)) f3 ⟨s, t, k3 b _ hab.symm ES⟩ (KeepY.of (K2.trans k3))
  obtain ⟨m', rfl⟩ : ∃ m', m = m' + 1 := ⟨m - 1, by omega⟩
  have hm' : (dp - 1).toNat = m' := by omega
  have rr : r = 3 ∨ r = 4 ∨ r = 5 ∨ r = 6 ∨ r = 7 ∨ r = 8 := by omega
  rcases rr with rfl | rfl | rfl | rfl | rfl | rfl
  · walk_at "ds"
    refine ⟨a, 4, rfl, by decide, by decide, f2, fun q G3 q0 q1 f3 k3 => ?_⟩
    have KALL := K2.trans k3
    have ES := k3 b _ hab.symm ES
    have FF := f3
    walk_at "ds"
    refine rIx_r ES atI_0 ?_
    walk_at "ds"
    generalize hmany : (if s < q then s else q) = many
    have HM1 : 0 ≤ many := by rw [← hmany]; split <;> omega
    have HM2 : many ≤ 3 := by rw [← hmany]; split <;> omega
    cases t with
    | true =>
      walk_at "ds"
      refine rIx_r ES atI_0 ?_
      walk_at "ds"
      refine rIx_r ES atI_1 ?_
      walk_at "ds"
      refine sLst_i ES (by with_unfolding_all rfl) ?_
      walk_at "ds"
      refine sLst_i updG_same (by with_unfolding_all rfl) ?_
      rw [updG_updG]
      walk_at "ds"
      refine job_lc hab hdp (by omega) HM1 HM2 (FF.keepU hab) ⟨_, _, updG_same⟩ ?_
      intro ws G5 hws hlen f5 s5 k5
      have kk : KeepY a b G G5 := (KeepY.of KALL).trans (KeepY.upd.trans k5)
      walk_at "ds"
      rw [hm'] at hws
      exact hq (.row ws) _ (C.row hws (by omega)) f5 s5 kk
    | false =>
      walk_at "ds"
      refine rIx_r ES atI_0 ?_
      walk_at "ds"
      refine rIx_r ES atI_1 ?_
      walk_at "ds"
      refine sLst_i ES (by with_unfolding_all rfl) ?_
      walk_at "ds"
      refine sLst_i updG_same (by with_unfolding_all rfl) ?_
      rw [updG_updG]
      walk_at "ds"
      refine job_lc hab hdp (by omega) HM1 HM2 (FF.keepU hab) ⟨_, _, updG_same⟩ ?_
      intro ws G5 hws hlen f5 s5 k5
      have kk : KeepY a b G G5 := (KeepY.of KALL).trans (KeepY.upd.trans k5)
      walk_at "ds"
      rw [hm'] at hws
      exact hq (.row ws) _ (C.row hws (by omega)) f5 s5 kk
  · walk_at "ds"
    refine ⟨a, 4, rfl, by decide, by decide, f2, fun q G3 q0 q1 f3 k3 => ?_⟩
    have KALL := K2.trans k3
    have ES := k3 b _ hab.symm ES
    have FF := f3
    walk_at "ds"
    refine rIx_r ES atI_0 ?_
    walk_at "ds"
    generalize hmany : (if s < q then s else q) = many
    have HM1 : 0 ≤ many := by rw [← hmany]; split <;> omega
    have HM2 : many ≤ 3 := by rw [← hmany]; split <;> omega
    cases t with
    | true =>
      walk_at "ds"
      refine rIx_r ES atI_0 ?_
      walk_at "ds"
      refine rIx_r ES atI_1 ?_
      walk_at "ds"
      refine sLst_i ES (by with_unfolding_all rfl) ?_
      walk_at "ds"
      refine sLst_i updG_same (by with_unfolding_all rfl) ?_
      rw [updG_updG]
      walk_at "ds"
      refine job_lc hab hdp (by omega) HM1 HM2 (FF.keepU hab) ⟨_, _, updG_same⟩ ?_
      intro ws G5 hws hlen f5 s5 k5
      have kk : KeepY a b G G5 := (KeepY.of KALL).trans (KeepY.upd.trans k5)
      walk_at "ds"
      rw [hm'] at hws
      exact hq (.row ws) _ (C.row hws (by omega)) f5 s5 kk
    | false =>
      walk_at "ds"
      refine rIx_r ES atI_0 ?_
      walk_at "ds"
      refine rIx_r ES atI_1 ?_
      walk_at "ds"
      refine sLst_i ES (by with_unfolding_all rfl) ?_
      walk_at "ds"
      refine sLst_i updG_same (by with_unfolding_all rfl) ?_
      rw [updG_updG]
      walk_at "ds"
      refine job_lc hab hdp (by omega) HM1 HM2 (FF.keepU hab) ⟨_, _, updG_same⟩ ?_
      intro ws G5 hws hlen f5 s5 k5
      have kk : KeepY a b G G5 := (KeepY.of KALL).trans (KeepY.upd.trans k5)
      walk_at "ds"
      rw [hm'] at hws
      exact hq (.row ws) _ (C.row hws (by omega)) f5 s5 kk
  · have KALL := K2
    have FF := f2
    have HM1 : (0 : Int) ≤ 1 := by decide
    have HM2 : (1 : Int) ≤ 3 := by decide
    cases t with
    | true =>
      walk_at "ds"
      refine rIx_r ES atI_0 ?_
      walk_at "ds"
      refine rIx_r ES atI_1 ?_
      walk_at "ds"
      refine sLst_i ES (by with_unfolding_all rfl) ?_
      walk_at "ds"
      refine sLst_i updG_same (by with_unfolding_all rfl) ?_
      rw [updG_updG]
      walk_at "ds"
      refine job_lc hab hdp (by omega) HM1 HM2 (FF.keepU hab) ⟨_, _, updG_same⟩ ?_
      intro ws G5 hws hlen f5 s5 k5
      have kk : KeepY a b G G5 := (KeepY.of KALL).trans (KeepY.upd.trans k5)
      walk_at "ds"
      rw [hm'] at hws
      match ws, hlen with
      | [w], _ =>
      refine ⟨a, 3, rfl, by decide, by decide, f5, fun q G6 q0 q1 f6 k6 => ?_⟩
      walk_at "ds"
      obtain ⟨s6, t6, e6⟩ := s5
      exact hq (.lop l (l + q) true w) _ (C.lop (by omega) (by omega) (by omega) (hws w (List.mem_cons_self ..))) f6 ⟨s6, t6, k6 b _ hab.symm e6⟩ (kk.trans (KeepY.of k6))
    | false =>
      walk_at "ds"
      refine rIx_r ES atI_0 ?_
      walk_at "ds"
      refine rIx_r ES atI_1 ?_
      walk_at "ds"
      refine sLst_i ES (by with_unfolding_all rfl) ?_
      walk_at "ds"
      refine sLst_i updG_same (by with_unfolding_all rfl) ?_
      rw [updG_updG]
      walk_at "ds"
      refine job_lc hab hdp (by omega) HM1 HM2 (FF.keepU hab) ⟨_, _, updG_same⟩ ?_
      intro ws G5 hws hlen f5 s5 k5
      have kk : KeepY a b G G5 := (KeepY.of KALL).trans (KeepY.upd.trans k5)
      walk_at "ds"
      rw [hm'] at hws
      match ws, hlen with
      | [w], _ =>
      refine ⟨a, 3, rfl, by decide, by decide, f5, fun q G6 q0 q1 f6 k6 => ?_⟩
      walk_at "ds"
      obtain ⟨s6, t6, e6⟩ := s5
      exact hq (.lop l (l + q) true w) _ (C.lop (by omega) (by omega) (by omega) (hws w (List.mem_cons_self ..))) f6 ⟨s6, t6, k6 b _ hab.symm e6⟩ (kk.trans (KeepY.of k6))
  · have KALL := K2
    have FF := f2
    have HM1 : (0 : Int) ≤ 1 := by decide
    have HM2 : (1 : Int) ≤ 3 := by decide
    cases t with
    | true =>
      walk_at "ds"
      refine rIx_r ES atI_0 ?_
      walk_at "ds"
      refine rIx_r ES atI_1 ?_
      walk_at "ds"
      refine sLst_i ES (by with_unfolding_all rfl) ?_
      walk_at "ds"
      refine sLst_i updG_same (by with_unfolding_all rfl) ?_
      rw [updG_updG]
      walk_at "ds"
      refine job_lc hab hdp (by omega) HM1 HM2 (FF.keepU hab) ⟨_, _, updG_same⟩ ?_
      intro ws G5 hws hlen f5 s5 k5
      have kk : KeepY a b G G5 := (KeepY.of KALL).trans (KeepY.upd.trans k5)
      walk_at "ds"
      rw [hm'] at hws
      match ws, hlen with
      | [w], _ =>
      refine ⟨a, 3, rfl, by decide, by decide, f5, fun q G6 q0 q1 f6 k6 => ?_⟩
      walk_at "ds"
      obtain ⟨s6, t6, e6⟩ := s5
      exact hq (.lop l (l + q) false w) _ (C.lop (by omega) (by omega) (by omega) (hws w (List.mem_cons_self ..))) f6 ⟨s6, t6, k6 b _ hab.symm e6⟩ (kk.trans (KeepY.of k6))
    | false =>
      walk_at "ds"
      refine rIx_r ES atI_0 ?_
      walk_at "ds"
      refine rIx_r ES atI_1 ?_
      walk_at "ds"
      refine sLst_i ES (by with_unfolding_all rfl) ?_
      walk_at "ds"
      refine sLst_i updG_same (by with_unfolding_all rfl) ?_
      rw [updG_updG]
      walk_at "ds"
      refine job_lc hab hdp (by omega) HM1 HM2 (FF.keepU hab) ⟨_, _, updG_same⟩ ?_
      intro ws G5 hws hlen f5 s5 k5
      have kk : KeepY a b G G5 := (KeepY.of KALL).trans (KeepY.upd.trans k5)
      walk_at "ds"
      rw [hm'] at hws
      match ws, hlen with
      | [w], _ =>
      refine ⟨a, 3, rfl, by decide, by decide, f5, fun q G6 q0 q1 f6 k6 => ?_⟩
      walk_at "ds"
      obtain ⟨s6, t6, e6⟩ := s5
      exact hq (.lop l (l + q) false w) _ (C.lop (by omega) (by omega) (by omega) (hws w (List.mem_cons_self ..))) f6 ⟨s6, t6, k6 b _ hab.symm e6⟩ (kk.trans (KeepY.of k6))
  · walk_at "ds"
    refine ⟨a, 2, rfl, by decide, by decide, f2, fun q G3 q0 q1 f3 k3 => ?_⟩
    have KALL := K2.trans k3
    have ES := k3 b _ hab.symm ES
    have FF := f3
    have HM1 : 0 ≤ 1 + q := by omega
    have HM2 : 1 + q ≤ 3 := by omega
    cases t with
    | true =>
      walk_at "ds"
      refine rIx_r ES atI_0 ?_
      walk_at "ds"
      refine rIx_r ES atI_1 ?_
      walk_at "ds"
      refine sLst_i ES (by with_unfolding_all rfl) ?_
      walk_at "ds"
      refine sLst_i updG_same (by with_unfolding_all rfl) ?_
      rw [updG_updG]
      walk_at "ds"
      refine job_lc hab hdp (by omega) HM1 HM2 (FF.keepU hab) ⟨_, _, updG_same⟩ ?_
      intro ws G5 hws hlen f5 s5 k5
      have kk : KeepY a b G G5 := (KeepY.of KALL).trans (KeepY.upd.trans k5)
      walk_at "ds"
      rw [hm'] at hws
      exact hq (.eit ws) _ (C.eit hws (by omega) (by rintro rfl; simp at hlen; omega)) f5 s5 kk
    | false =>
      walk_at "ds"
      refine rIx_r ES atI_0 ?_
      walk_at "ds"
      refine rIx_r ES atI_1 ?_
      walk_at "ds"
      refine sLst_i ES (by with_unfolding_all rfl) ?_
      walk_at "ds"
      refine sLst_i updG_same (by with_unfolding_all rfl) ?_
      rw [updG_updG]
      walk_at "ds"
      refine job_lc hab hdp (by omega) HM1 HM2 (FF.keepU hab) ⟨_, _, updG_same⟩ ?_
      intro ws G5 hws hlen f5 s5 k5
      have kk : KeepY a b G G5 := (KeepY.of KALL).trans (KeepY.upd.trans k5)
      walk_at "ds"
      rw [hm'] at hws
      exact hq (.eit ws) _ (C.eit hws (by omega) (by rintro rfl; simp at hlen; omega)) f5 s5 kk
  · cases t with
    | true =>
      have KALL := K2
      have FF := f2
      have HM1 : (0 : Int) ≤ 2 := by decide
      have HM2 : (2 : Int) ≤ 3 := by decide
      walk_at "ds"
      refine rIx_r ES atI_1 ?_
      walk_at "ds"
      refine rIx_r ES atI_1 ?_
      walk_at "ds"
      refine rIx_r ES atI_0 ?_
      walk_at "ds"
      refine rIx_r ES atI_1 ?_
      walk_at "ds"
      refine sLst_i ES (by with_unfolding_all rfl) ?_
      walk_at "ds"
      refine sLst_i updG_same (by with_unfolding_all rfl) ?_
      rw [updG_updG]
      walk_at "ds"
      refine job_lc hab hdp (by omega) HM1 HM2 (FF.keepU hab) ⟨_, _, updG_same⟩ ?_
      intro ws G5 hws hlen f5 s5 k5
      have kk : KeepY a b G G5 := (KeepY.of KALL).trans (KeepY.upd.trans k5)
      walk_at "ds"
      rw [hm'] at hws
      match ws, hlen with
      | [w, v], _ =>
      walk_at "ds"
      exact hq (.bes w v) _ (C.bes (hws w (by simp)) (hws v (by simp))) f5 s5 kk
    | false =>
      walk_at "ds"
      refine rIx_r ES atI_1 ?_
      walk_at "ds"
      refine ⟨a, 2, rfl, by decide, by decide, f2, fun q G3 q0 q1 f3 k3 => ?_⟩
      have KALL := K2.trans k3
      have ES := k3 b _ hab.symm ES
      have FF := f3
      have HM1 : 0 ≤ 1 + q := by omega
      have HM2 : 1 + q ≤ 3 := by omega
      walk_at "ds"
      refine rIx_r ES atI_1 ?_
      walk_at "ds"
      refine rIx_r ES atI_0 ?_
      walk_at "ds"
      refine rIx_r ES atI_1 ?_
      walk_at "ds"
      refine sLst_i ES (by with_unfolding_all rfl) ?_
      walk_at "ds"
      refine sLst_i updG_same (by with_unfolding_all rfl) ?_
      rw [updG_updG]
      walk_at "ds"
      refine job_lc hab hdp (by omega) HM1 HM2 (FF.keepU hab) ⟨_, _, updG_same⟩ ?_
      intro ws G5 hws hlen f5 s5 k5
      have kk : KeepY a b G G5 := (KeepY.of KALL).trans (KeepY.upd.trans k5)
      walk_at "ds"
      rw [hm'] at hws
      exact hq (.eit ws) _ (C.eit hws (by omega) (by rintro rfl; simp at hlen; omega)) f5 s5 kk
end KJ
namespace K20
open PySem L2 Dl K17 K18 K24
local macro_rules | `(tactic| walk_at "ds") => `(tactic| repeat' with_reducible first
  | refine iVar (by with_unfolding_all rfl) ?_
  | refine iCons ?_
  | refine iNil ?_
  | refine iC ?_
  | refine iOp ?_
  | refine iSeq ?_
  | refine iAsg ?_
  | refine iGNm ?_
  | refine iFrz ?_
  | refine iRet ?_
  | refine iCall ?_
  | refine iLst ?_
  | refine iPar ?_
  | refine lenOk (by with_unfolding_all rfl) ?_
  | refine frzEnd ?_
  | refine iTru ?_
  | refine truB ?_
  | refine iAndVK ?_
  | refine andVT ?_
  | refine iIf ?_
  | refine ifT ?_
  | refine ifF ?_
  | refine iCB ?_
  | refine rIx_i (by with_unfolding_all rfl) (by with_unfolding_all rfl) ?_
  | refine rIx_i (by with_unfolding_all rfl) atI_0 ?_
  | refine eq_strT ?_
  | refine tupC_l ?_
  | fail "stuck")
end K20
namespace K20
open PySem L2 Dl K17 K18 K24
local macro_rules | `(tactic| walk_at "ds") => `(tactic| repeat' with_reducible first
  | refine iVar (by with_unfolding_all rfl) ?_
  | refine iCons ?_
  | refine iNil ?_
  | refine iC ?_
  | refine iOp ?_
  | refine iSeq ?_
  | refine iAsg ?_
  | refine iGNm ?_
  | refine iTup ?_
  | refine iFrz ?_
  | refine iTst ?_
  | refine iIfS ?_
  | refine iRet ?_
  | refine iCall ?_
  | refine iLst ?_
  | refine iNext ?_
  | refine lstP_i (by assumption) ?_
  | refine lstP_i updG_same ?_
  | refine iDrop ?_
  | refine lenOk (by with_unfolding_all rfl) ?_
  | refine frzEnd ?_
  | refine lstC_t ?_
  | refine iTru ?_
  | refine truB ?_
  | refine iOr ?_
  | refine iNot ?_
  | refine ifF ?_
  | refine iCB ?_
  | refine iMt ?_
  | refine iFor ?_
  | refine iISq ?_
  | refine ne_strT ?_
  | refine ne_ii ?_
  | refine tupC_l ?_
  | refine iIRg1 ?_
  | refine add_llb (by with_unfolding_all rfl) ?_
  | refine ifNT ?_
  | refine ifNDT (by with_reducible_and_instances first | omega | (simp only [List.length_cons, List.length_nil]; omega)) ?_
  | fail "stuck")
end K20
namespace K28
open PySem L2 Dl K17 K18 K24 K20
local macro_rules | `(tactic| walk_at "ds") => `(tactic| repeat' with_reducible first
  | fail "stuck")
theorem manyS_of {a b n : Int} (h1 : a ≤ n) (h2 : n ≤ b) : Sg.many n ∈ manyS a b := by
  unfold manyS
  refine List.mem_map.mpr ⟨(n - a).toNat, List.mem_range.mpr (by omega), ?_⟩
  congr 1; omega
end K28
namespace K28
open PySem L2 Dl K17 K18 K24 K20
local macro_rules | `(tactic| walk_at "ds") => `(tactic| repeat' with_reducible first
  | fail "stuck")
end K28
namespace Dl
open PySem L2
structure FCallee (P : Program) (w : World) (K : PySem.W.Frag) (mg : Str → Option Value) (base : Heap) (k : Nat) (x : Str) (ps : List Str) (sp : DSp) : Prop where
  ex : ∃ f fd, FnOk P w K mg base CX0 k f fd ps (toSp K sp) ∧ mg x = some (.ref f) ∧ PySem.W.keepIn K (.ref f) = true ∧ Binds K fd ps [] ∧ KwB K fd ps ps (fun l => l)
section
variable {P : Program} {w : World} {K : PySem.W.Frag} {mg : Str → Option Value} {base : Heap} {j k : Nat} {x : Str} {ps : List Str} {sp : DSp}
end
section
variable {X : Cx} {k : Nat} {x : Str} {ps : List Str} {sp : DSp} {p pos : Pos} {e : Expr} {es : List Expr} {ta : DTA}
end
section
variable {P : Program} {w : World} {K : PySem.W.Frag} {mg : Str → Option Value} {base : Heap} {x qual : Str} {params : Arguments} {body : List Stmt} {scope : Scope} {f : Addr} {fd : FuncData} {N ps : List Str} {k : Nat} {sp : DSp} {t : DTS}
end
end Dl
namespace Dl
open PySem L2
section
variable {X : Cx}
end
structure DGE where
  nx : List D → DSt → GH → Prop
  rt : List D → DK
  bk : List D → DSt → GH → Prop := fun _ _ _ => False
  ct : List D → DSt → GH → Prop := fun _ _ _ => False
abbrev DTY := DGE → List D → DSt → GH → Prop
section
variable {X : Cx}
end
end Dl
namespace Dl
open PySem L2
abbrev DSpG := List D → GH → (List D → GH → Prop) → Prop
def toSpG (K : PySem.W.Frag) (sp : DSpG) : SpG := fun vs H Qv _ => ∃ ds G q, RepL K G H ds vs ∧ GOk K G H ∧ sp ds G q ∧
  ∀ zs es H' G', Ext G H G' H' → GOk K G' H' → RepL K G' H' es zs → q es G' → Qv zs H'
structure GCallee (P : Program) (w : World) (K : PySem.W.Frag) (mg : Str → Option Value) (base : Heap) (k : Nat) (x : Str) (ps : List Str) (sp : DSpG) : Prop where
  ex : ∃ j f fd, j + 3 ≤ k ∧ L2.GFn P w K mg base j f fd ps (toSpG K sp) ∧ mg x = some (.ref f) ∧ PySem.W.keepIn K (.ref f) = true ∧ Binds K fd ps []
section
variable {P : Program} {w : World} {K : PySem.W.Frag} {mg : Str → Option Value} {base : Heap} {j k : Nat} {x : Str} {ps : List Str} {sp : DSpG}
variable {qual : Str} {params : Arguments} {body : List Stmt} {scope : Scope} {f : Addr} {fd : FuncData} {N : List Str} {t : DTY}
end
section
variable {X : Cx} {k : Nat} {x : Str} {ps : List Str} {sp : DSpG} {p p2 pos pos2 : Pos} {e : Expr} {es : List Expr} {ta : DTA}
end
section
variable {X : Cx}
end
end Dl
namespace K28
open PySem L2 Dl
end K28
namespace K28
open PySem L2 Dl K17 K18 K24 K20
local macro_rules | `(tactic| walk_at "ds") => `(tactic| repeat' with_reducible first
  | refine iVar (by with_unfolding_all rfl) ?_
  | refine iCons ?_
  | refine iNil ?_
  | refine iOp ?_
  | refine iAsg ?_
  | refine iGNm ?_
  | refine iTup ?_
  | refine iFrz ?_
  | refine iTst ?_
  | refine iCall ?_
  | refine iLst ?_
  | refine lstP_i (by assumption) ?_
  | refine lstP_i updG_same ?_
  | refine iRev ?_
  | refine revL ?_
  | refine iDrop ?_
  | refine iGTp (by with_unfolding_all rfl) ?_
  | refine iGsCons ?_
  | refine iGsNil ?_
  | refine lenOk (by with_unfolding_all rfl) ?_
  | refine frzEnd ?_
  | refine ifT ?_
  | refine ifF ?_
  | refine iMt ?_
  | refine iStar ?_
  | refine iFor ?_
  | refine iISq ?_
  | refine ifNT ?_
  | refine ifNF ?_
  | fail "stuck")
end K28
namespace K28
open PySem L2 Dl K17 K18 K24 K20
local macro_rules | `(tactic| walk_at "ds") => `(tactic| repeat' with_reducible first
  | refine iVar (by with_unfolding_all rfl) ?_
  | refine iCons ?_
  | refine iNil ?_
  | refine iC ?_
  | refine iOp ?_
  | refine iSeq ?_
  | refine iAsg ?_
  | refine iGNm ?_
  | refine iTup ?_
  | refine iFrz ?_
  | refine iTst ?_
  | refine iIfS ?_
  | refine iRet ?_
  | refine iCall ?_
  | refine iLst ?_
  | refine iNext ?_
  | refine lenOk (by with_unfolding_all rfl) ?_
  | refine slT ?_
  | refine iIf ?_
  | refine ifT ?_
  | refine ifF ?_
  | refine iCB ?_
  | refine iSl ?_
  | refine iP ?_
  | refine iNoP ?_
  | refine iISq ?_
  | refine rIx_i (by with_unfolding_all rfl) (by with_unfolding_all rfl) ?_
  | refine rIx_i (by with_unfolding_all rfl) atI_0 ?_
  | refine eq_strT ?_
  | refine eq_strF (by with_unfolding_all rfl) ?_
  | refine eq_ii ?_
  | refine int0 ?_
  | refine len_l ?_
  | refine tupC_l ?_
  | refine add_ttb (by with_unfolding_all rfl) ?_
  | fail "stuck")
end K28
namespace K24
open PySem L2 Dl K17 K18
local macro_rules | `(tactic| walk_at "ds") => `(tactic| repeat' with_reducible first
  | refine iVar (by with_unfolding_all rfl) ?_
  | refine iCons ?_
  | refine iNil ?_
  | refine iC ?_
  | refine iOp ?_
  | refine iSeq ?_
  | refine iAsg ?_
  | refine iGNm ?_
  | refine iTup ?_
  | refine iTst ?_
  | refine iRet ?_
  | refine iCall ?_
  | refine iCallG ?_
  | refine iDrop ?_
  | refine iPar ?_
  | refine lenOk (by with_unfolding_all rfl) ?_
  | refine slT ?_
  | refine iAndVK ?_
  | refine andVT ?_
  | refine iIf ?_
  | refine iCB ?_
  | refine iSl ?_
  | refine iP ?_
  | refine iNoP ?_
  | refine eq_ii ?_
  | refine ne_ii ?_
  | refine add_ii ?_
  | refine int0 ?_
  | refine len_t ?_
  | refine intC_i ?_
  | fail "stuck")
structure Beg (w : Wk) (ss : List Sg) (v : Wk) : Prop where
  bd : Bd w
  p : Path (tidyW w) ss v
section
variable {w v : Wk} {ss : List Sg}
theorem Beg.len (h : Beg w ss v) : ss.length ≤ 1890 := runs_le h.bd.tidy (q := (ss, v)) h.p
end
end K24
namespace K28
open PySem L2 Dl K17 K18 K24 K20
local macro_rules | `(tactic| walk_at "ds") => `(tactic| repeat' with_reducible first
  | fail "stuck")
end K28
namespace K28
open PySem L2 Dl K17 K18 K24 K20
local macro_rules | `(tactic| walk_at "ds") => `(tactic| repeat' with_reducible first
  | refine iVar (by with_unfolding_all rfl) ?_
  | refine iCons ?_
  | refine iNil ?_
  | refine iC ?_
  | refine iOp ?_
  | refine iSeq ?_
  | refine iAsg ?_
  | refine iGNm ?_
  | refine iTup ?_
  | refine iFrz ?_
  | refine iTst ?_
  | refine iIfS ?_
  | refine iRet ?_
  | refine iCall ?_
  | refine iLst ?_
  | refine iNext ?_
  | refine iNeg ?_
  | refine iPar ?_
  | refine iGTp (by with_unfolding_all rfl) ?_
  | refine iGsCons ?_
  | refine iGsNil ?_
  | refine lenOk (by with_unfolding_all rfl) ?_
  | refine frzEnd ?_
  | refine slT ?_
  | refine lstC_t ?_
  | refine iOr ?_
  | refine ifDF (by decide) ?_
  | refine iCB ?_
  | refine iSl ?_
  | refine iP ?_
  | refine iNoP ?_
  | refine iFor ?_
  | refine iISq ?_
  | refine rIx_i (by with_unfolding_all rfl) (by with_unfolding_all rfl) ?_
  | refine rIx_i (by with_unfolding_all rfl) atI_0 ?_
  | refine ne_ii ?_
  | refine add_ii ?_
  | refine int0 ?_
  | refine len_t ?_
  | refine iIRg1 ?_
  | refine ifNT ?_
  | refine ifDF (by with_reducible_and_instances first | omega | (simp only [List.length_cons, List.length_nil]; omega)) ?_
  | refine ifNDT (by with_reducible_and_instances first | omega | (simp only [List.length_cons, List.length_nil]; omega)) ?_
  | fail "stuck")
end K28
namespace Dl
open PySem L2
section
variable {X : Cx}
theorem vw_pure {G : GH} {d : D} (h : pureD d = true) : vw G d = d := by
  cases d with
  | ref a => simp [pureD] at h
  | _ => rfl
end
end Dl
namespace Dl
open PySem L2
def nestS (outer inner : Scope) : Scope := { inner with names := inner.names.map fun (n, k) => if (k == NameKind.free && outer.kind == .function && outer.names.lookup n == some .cell) then (n, NameKind.cell) else (n, k) }
def dLc2B (ok1 : GH → Prop) (cj : CT) (te : DTE) (ρ : DSt) (p : Addr) : List D → GH → (GH → Prop) → Prop
  | [], G, K => ok1 G ∧ K G
  | x :: xs, G, K => ok1 G ∧ match bindC cj x ρ with
    | none => False
    | some ρ2 => te ρ2 G fun y G4 => (match G4 p with
        | some (.lst acc) => acc.length < sizeLine ∧ dLc2B ok1 cj te ρ p xs (updG G4 p (.lst (acc ++ [y]))) K
        | _ => False)
def dLc2A (ok : GH → Prop) (ct : CT) (wj : DTI) (cj : CT) (te : DTE) (ρ : DSt) (us : List Nat) (p : Addr) : List D → GH → DK → Prop
  | [], G, Q => ok G ∧ Q (.ref p) G
  | x :: xs, G, Q => ok G ∧ match bindC ct x ρ with
    | none => False
    | some ρ2 => wj ρ2 G fun items1 ok1 G1 => dLc2B ok1 cj te (wipeD ρ2 us) p items1 G1 fun G2 => dLc2A ok ct wj cj te ρ us p xs G2 Q
def dLc2 (wi : DTI) (ct : CT) (wj : DTI) (cj : CT) (te : DTE) (vs us : List Nat) : DTE := fun ρ G Q => wi ρ G fun items ok G1 => ∀ p, G1 p = none → dLc2A ok ct wj cj te (wipeD ρ vs) us p items (updG G1 p (.lst [])) Q
theorem up_lc2 {K : PySem.W.Frag} {wi wj : DTI} {ct cj : CT} {te : DTE} {vs us : List Nat} (hi : ∀ i ∈ ct.slots, i ∈ vs) (hj : ∀ i ∈ cj.slots, i ∈ us) {σ : L2.St} {H : Hp} {Q : VK} (h : up K (dLc2 wi ct wj cj te vs us) σ H Q) :
    tLc2 (upI K wi) (ct.gV K) (upT K dYes) (upI K wj) (cj.gV K) (upT K dYes) (up K te) vs us σ H Q := by
  obtain ⟨ρ, G, q, r, h, k⟩ := h
  refine ⟨ρ, G, _, r, h, fun J items ok H1 G1 e1 r1 it h1 => fun p hp => ?_⟩
  obtain ⟨e2, r2, _⟩ := r1.newLst hp (repL_nil (K := K) (G := G1) (H := H1))
  have h2 := h1 p (r1.gok.fresh hp)
  refine ⟨fun i m H2 => m = items.length - i ∧ i ≤ items.length ∧ ∃ G2, Ext (updG G1 p (.lst [])) (upd H1 p (.lst [])) G2 H2 ∧ GOk K G2 H2 ∧ dLc2A ok ct wj cj te (wipeD ρ vs) us p (items.drop i) G2 q, ⟨items.length, rfl, Nat.zero_le _, _, Ext.refl _ _, r2.gok, h2⟩, ?_⟩
  rintro i m H2 ⟨rfl, hi2, G2, e3, g3, h3⟩
  have r3 : DRel K σ H2 ρ G2 := r2.ext e3 g3
  have e13 : Ext G1 H1 G2 H2 := e2.trans e3
  by_cases hlt : i < items.length
  · rw [List.drop_eq_getElem_cons hlt] at h3
    unfold dLc2A at h3
    obtain ⟨ho, h3⟩ := h3
    obtain ⟨a, b⟩ := it G2 H2 e13 g3 ho i
    obtain ⟨go, yl⟩ := a items[i] (List.getElem?_eq_getElem hlt)
    refine .inr ⟨go, fun H3 => ∃ G3, Ext (updG G1 p (.lst [])) (upd H1 p (.lst [])) G3 H3 ∧ GOk K G3 H3 ∧ dLc2A ok ct wj cj te (wipeD ρ vs) us p (items.drop (i + 1)) G3 q, fun H3 ⟨G3, q3⟩ => ⟨items.length - (i + 1), by omega, rfl, hlt, G3, q3⟩, fun x H3 hy => ?_⟩
    obtain ⟨e4, g4, rx⟩ := yl x H3 hy
    have r4 : DRel K (wipe σ vs) H3 (wipeD ρ vs) G2 := (r3.ext e4 g4).wipe vs
    cases eb : bindC ct items[i] (wipeD ρ vs) with
    | none => rw [eb] at h3; exact h3.elim
    | some ρ2 =>
      rw [eb] at h3
      refine bindC_ok hi r4 rx eb fun σ5 r5 w5 => ⟨by rw [w5, wipe_wipe], ρ2, G2, fun b G' => b = true ∧ G' = G2, r5, ⟨rfl, rfl⟩, ?_⟩
      rintro b H5 G5 e5 r5' ⟨rfl, rfl⟩
      rw [if_pos rfl]
      refine ⟨ρ2, G5, _, r5', h3, fun L items1 ok1 H6 G6 e6 r6 it1 h6 => ?_⟩
      have e36 := ((e3.trans e4).trans e5).trans e6
      refine ⟨fun j m H7 => m = items1.length - j ∧ j ≤ items1.length ∧ ∃ G7, Ext G6 H6 G7 H7 ∧ GOk K G7 H7 ∧
          dLc2B ok1 cj te (wipeD ρ2 us) p (items1.drop j) G7 (fun G3 => dLc2A ok ct wj cj te (wipeD ρ vs) us p (items.drop (i + 1)) G3 q), ⟨items1.length, rfl, Nat.zero_le _, G6, Ext.refl _ _, r6.gok, h6⟩, ?_⟩
      rintro j m H7 ⟨rfl, hj2, G7, e7, g7, h7⟩
      have r7 : DRel K σ5 H7 ρ2 G7 := r6.ext e7 g7
      by_cases hlt1 : j < items1.length
      · rw [List.drop_eq_getElem_cons hlt1] at h7
        unfold dLc2B at h7
        obtain ⟨ho7, h7⟩ := h7
        obtain ⟨a1, _⟩ := it1 G7 H7 e7 g7 ho7 j
        obtain ⟨go1, yl1⟩ := a1 items1[j] (List.getElem?_eq_getElem hlt1)
        refine .inr ⟨go1, fun H8 => ∃ G8, Ext G6 H6 G8 H8 ∧ GOk K G8 H8 ∧
          dLc2B ok1 cj te (wipeD ρ2 us) p (items1.drop (j + 1)) G8 (fun G3 => dLc2A ok ct wj cj te (wipeD ρ vs) us p (items.drop (i + 1)) G3 q), fun H8 ⟨G8, q8⟩ => ⟨items1.length - (j + 1), by omega, rfl, hlt1, G8, q8⟩, fun x1 H8 hy1 => ?_⟩
        obtain ⟨e8, g8, rx1⟩ := yl1 x1 H8 hy1
        have r8 : DRel K (wipe σ5 us) H8 (wipeD ρ2 us) G7 := (r7.ext e8 g8).wipe us
        cases eb1 : bindC cj items1[j] (wipeD ρ2 us) with
        | none => rw [eb1] at h7; exact h7.elim
        | some ρ9 =>
          rw [eb1] at h7
          refine bindC_ok hj r8 rx1 eb1 fun σ9 r9 w9 => ⟨by rw [w9, wipe_wipe], ρ9, G7, fun b G' => b = true ∧ G' = G7, r9, ⟨rfl, rfl⟩, ?_⟩
          rintro b H9 G9 e9 r9' ⟨rfl, rfl⟩
          rw [if_pos rfl]
          refine ⟨ρ9, G9, _, r9', h7, fun y dy H10 G10 e10 r10 v10 h10 => ?_⟩
          cases hg : G10 p with
          | none => rw [hg] at h10; exact h10.elim
          | some o =>
            rw [hg] at h10
            cases o with
            | lst acc =>
              obtain ⟨xs, hx, rx⟩ := r10.gok p _ hg
              have e11 : Ext G10 H10 (updG G10 p (.lst (acc ++ [dy]))) (upd H10 p (.lst (xs ++ [y]))) := Ext.write hg
              exact ⟨xs, hx, by rw [rx.length]; exact h10.1, _, (((e7.trans e8).trans e9).trans e10).trans e11, r10.gok.put e11 ⟨_, upd_same, (rx.append (repL_one v10)).ext e11⟩, h10.2⟩
            | dct _ => exact h10.elim
            | raw _ => exact h10.elim
            | ins _ _ => exact h10.elim
            | dtp _ => exact h10.elim
            | tab _ => exact h10.elim
            | slt _ _ => exact h10.elim
            | dny _ _ _ => exact h10.elim
      · have e : j = items1.length := by omega
        subst e
        rw [List.drop_length] at h7
        unfold dLc2B at h7
        exact .inl ⟨(it1 G7 H7 e7 g7 h7.1 _).2 rfl, G7, e36.trans e7, g7, h7.2⟩
  · have e : i = items.length := by omega
    subst e
    rw [List.drop_length] at h3
    unfold dLc2A at h3
    refine .inl ⟨(it G2 H2 e13 g3 h3.1 _).2 rfl, k _ (.ref p) H2 G2 (e1.trans e13) (r3) (by unfold RepV; rfl) h3.2⟩
section
variable {X : Cx}
theorem de_lc2 {elt tg iter tg1 iter1 : Expr} {scope : Scope} {own : List (Str × Nat)} {us : List Nat} {pos : Pos} {wi wj : DTI} {ct cj : CT} {te : DTE} (hc : X.calm = true) (hN : X.N.Nodup) (hi : DI X tg iter wi) (ok : BlkOk X.N X.env.scope scope own)
    (hv : ∀ i ∈ us, i ∈ own.map (·.2)) (h1 : ∀ i ∈ ct.slots, i ∈ own.map (·.2)) (h2 : ∀ i ∈ cj.slots, i ∈ us)
    (hg : ∀ (s : Shared) (H : Hp) (C : Addr) (cl : List (Str × Addr)) (fp : List Addr), PG (X.blk s H scope (compEnvC scope cl C X.env) fp) tg (ct.gV X.K))
    (hj : ∀ (s : Shared) (H : Hp) (C : Addr) (cl : List (Str × Addr)) (fp : List Addr), DI (X.blk s H scope (compEnvC scope cl C X.env) fp) tg1 iter1 wj)
    (hgj : ∀ (s : Shared) (H : Hp) (C : Addr) (cl : List (Str × Addr)) (fp : List Addr), PG (X.blk s H scope (compEnvC scope cl C X.env) fp) tg1 (cj.gV X.K))
    (he : ∀ (s : Shared) (H : Hp) (C : Addr) (cl : List (Str × Addr)) (fp : List Addr), DE (X.blk s H scope (compEnvC scope cl C X.env) fp) elt te)
    (hs : ∀ x, foldedSetIterable iter X.env x = pure x := by intro _; rfl) (hs1 : ∀ env x, foldedSetIterable iter1 env x = pure x := by intro _ _; rfl) :
    DE X (.ListComp elt [⟨tg, iter, [], 0⟩, ⟨tg1, iter1, [], 0⟩] scope pos) (dLc2 wi ct wj cj te (own.map (·.2)) us) :=
  (pe_lc2 (vs1 := us) hc hN hi ok hv hg (fun _ _ _ _ _ => dts_nil) hj hgj (fun _ _ _ _ _ => dts_nil) he hs hs1).imp fun _ _ _ h => up_lc2 h1 h2 h
end
end Dl
namespace K27
open PySem L2 Dl
def r_shortest_run (sp_shortest_run : DSp) : DTS :=
  (dMatch (dOp rIx (dVar 0) (dC (.int 0))) [(some "tick", (dRet (dOp rMul (dTup (dCons (dC (.str "tick")) dNil)) (dOp rIx (dVar 0) (dC (.int 1)))))),
  (some "some", (dSeq (dAsg (dOp rMul (dTup (dCons (dC (.str "tick")) dNil)) (dOp rIx (dVar 0) (dC (.int 1)))) (gNm 1))
  (dRet (dIf (dTru (dOp rIx (dVar 0) (dC (.int 3)))) (dTup (dCons (dTup (dCons (dC (.str "many")) (dCons (dOp rIx (dVar 0) (dC (.int 1))) dNil))) (dStar (dVar 1) dNil))) (dTup (dStar (dVar 1) (dCons (dC (.str "end")) dNil))))))),
  (some "loop", (dSeq (dAsg (dCall sp_shortest_run (dCons (dOp rIx (dVar 0) (dC (.int 4))) dNil)) (gNm 2))
  (dRet (dIf (dTru (dOp rIx (dVar 0) (dC (.int 3)))) (dTup (dCons (dTup (dCons (dC (.str "many")) (dCons (dOp rIx (dVar 0) (dC (.int 1))) dNil))) (dStar (dOp rMul (dVar 2) (dOp rIx (dVar 0) (dC (.int 1)))) dNil))) (dOp rAdd (dOp rMul (dTup (dCons (dC (.str "more")) (dStar (dVar 2) dNil))) (dOp rIx (dVar 0) (dC (.int 1)))) (dTup (dCons (dC (.str "end")) dNil))))))),
  (some "either", (dSeq (dAsg (dFrz (dLc (iEnT (dOp rIx (dVar 0) (dC (.int 1)))) (.tup [4, 5]) dYes (dTup (dCons (dTup (dCons (dC (.str "way")) (dCons (dVar 4) dNil))) (dStar (dCall sp_shortest_run (dCons (dVar 5) dNil)) dNil))) [4, 5])) (gNm 3))
  (dRet (dOp rIx (dFrz (dLc (iSq (dVar 3)) (.one 6) (dTst (dOp rEqv (dCB rLen (dCons (dVar 6) dNil)) (dCB rMinC (dCons (dFrz (dLc (iSq (dVar 3)) (.one 7) dYes (dCB rLen (dCons (dVar 7) dNil)) [7])) dNil)))) (dVar 6) [6])) (dC (.int 0)))))),
  (some "beside", (dSeq (dPar 7 8 (dCons (dCall sp_shortest_run (dCons (dOp rIx (dVar 0) (dC (.int 1))) dNil)) (dCons (dCall sp_shortest_run (dCons (dOp rIx (dVar 0) (dC (.int 2))) dNil)) dNil)))
  (dRet (dCB rTupC (dCons (dFrz (dOp rAdd (dFrz (dLc (iSq (dVar 7)) (.one 9) dYes (dTup (dCons (dC (.str "left")) (dCons (dVar 9) dNil))) [9])) (dFrz (dLc (iSq (dVar 8)) (.one 9) dYes (dTup (dCons (dC (.str "right")) (dCons (dVar 9) dNil))) [9])))) dNil))))),
  (none, (dRet (dCB rTupC (dCons (dFrz (dLc2 (iSq (dOp rIx (dVar 0) (dC (.int 1)))) (.one 5) (iSq (dCall sp_shortest_run (dCons (dVar 5) dNil))) (.one 9) (dVar 9) [5, 9] [9])) dNil))))])
end K27
namespace K27
open PySem L2 Dl K17 K18 K24 K20 K28
local macro_rules | `(tactic| walk_at "ds") => `(tactic| repeat' with_reducible first
  | fail "stuck")
theorem in_mk {Z : List Wk} (h : ∀ x ∈ Z, inRow x = [x]) : inRow (mkRow Z) = Z := by
  rcases mkRow_cases Z with ⟨w, e, f⟩ | f
  · rw [f, e]; exact h w (by rw [e]; simp)
  · rw [f]; rfl
theorem mk_in {t : Wk} (h : tidyW t = t) : mkRow (inRow t) = t := by
  cases t with
  | row us =>
    show mkRow us = _
    rcases mkRow_cases us with ⟨w, e, f⟩ | f
    · have k := (tidy_idem (.row us)).2
      rw [h] at k
      have h2 : tidyW (.row us) = w := by rw [tidyW, flat_fix (l := us) (fun x hx => k x hx), f]
      rw [h, e] at h2
      have e3 := congrArg sizeOf h2
      simp at e3
      omega
    · exact f
  | _ => rfl
theorem row_step {u : Wk} {ws : List Wk} (t : tidyW u = u) {s : Sg} (hs : s ∈ nxW u) : s ∈ nxW (tidyW (.row (u :: ws))) ∧ aft (tidyW (.row (u :: ws))) s = tidyW (.row (aft u s :: ws)) := by
  have key : ∃ y ys, inRow u = y :: ys ∧ s ∈ nxW y ∧ (∀ x ∈ ys, tidyW x = x ∧ inRow x = [x]) ∧ tidyW (behW u s) = mkRow (inRow (tidyW (behW y s)) ++ ys) := by
    have k := (tidy_idem u).2
    rw [t] at k
    have nonrow : (inRow u = [u]) → ∃ y ys, inRow u = y :: ys ∧ s ∈ nxW y ∧ (∀ x ∈ ys, tidyW x = x ∧ inRow x = [x]) ∧ tidyW (behW u s) = mkRow (inRow (tidyW (behW y s)) ++ ys) := fun e =>
      ⟨u, [], e, hs, (fun x hx => absurd hx (by simp)), by rw [List.append_nil, mk_in (tidy_idem _).1]⟩
    cases u with
    | row us =>
      cases us with
      | nil => simp [nxW, nxWs] at hs
      | cons y ys =>
        rw [nxW, nxWs] at hs
        refine ⟨y, ys, rfl, hs, fun x hx => k x (by simp [inRow, hx]), ?_⟩
        rw [show behW (.row (y :: ys)) s = .row (behW y s :: ys) from by simp [behW, behWs], tidyW, flatW, flat_fix fun x hx => k x (by simp [inRow, hx])]
    | tick n => exact nonrow rfl
    | sme a b t => exact nonrow rfl
    | lop a b t w => exact nonrow rfl
    | eit ws => exact nonrow rfl
    | bes a b => exact nonrow rfl
  obtain ⟨y, ys, e1, e2, e3, e4⟩ := key
  have hM := (tidy_idem (behW y s)).2
  have hF := flat_idem ws
  have eT : tidyW (.row (u :: ws)) = mkRow (y :: (ys ++ flatW ws)) := by rw [tidyW, flatW, t, e1, List.cons_append]
  have hR : flatW (ys ++ flatW ws) = ys ++ flatW ws := flat_fix fun x hx => by
    rcases List.mem_append.mp hx with q | q
    · exact e3 x q
    · exact hF x q
  have eR : tidyW (.row (aft u s :: ws)) = mkRow (inRow (tidyW (behW y s)) ++ (ys ++ flatW ws)) := by
    rw [tidyW, flatW]
    unfold aft
    rw [(tidy_idem _).1, e4, in_mk fun x hx => ?_, List.append_assoc]
    rcases List.mem_append.mp hx with q | q
    · exact (hM x q).2
    · exact (e3 x q).2
  rw [eT, eR]
  rcases mkRow_cases (y :: (ys ++ flatW ws)) with ⟨x, e, f⟩ | f
  · injection e with a b
    subst a
    rw [f, b, List.append_nil, mk_in (tidy_idem _).1]
    exact ⟨e2, rfl⟩
  · rw [f]
    refine ⟨by rw [nxW, nxWs]; exact e2, ?_⟩
    unfold aft
    rw [show behW (.row (y :: (ys ++ flatW ws))) s = .row (behW y s :: (ys ++ flatW ws)) from by simp [behW, behWs], tidyW, flatW, hR]
theorem row_path {u v : Wk} {r : List Sg} (h : Path u r v) (ws : List Wk) : tidyW u = u → Path (tidyW (.row (u :: ws))) r (tidyW (.row (v :: ws))) := by
  induction h with
  | nil w => exact fun _ => .nil _
  | @cons w v s ss h k ih =>
    intro t
    obtain ⟨h1, h2⟩ := row_step (ws := ws) t h
    refine .cons h1 ?_
    rw [h2]
    exact ih (tidy_idem _).1
theorem path_app {w u v : Wk} {a b : List Sg} (h : Path w a u) (k : Path u b v) : Path w (a ++ b) v := by
  induction h with
  | nil w => exact k
  | @cons w u s ss h _ ih => exact .cons h (ih k)
theorem tidy_besL (x b : Wk) : tidyW (.bes (tidyW x) b) = tidyW (.bes x b) := by rw [tidyW, tidyW, (tidy_idem x).1]
theorem tidy_besR (a x : Wk) : tidyW (.bes a (tidyW x)) = tidyW (.bes a x) := by rw [tidyW, tidyW, (tidy_idem x).1]
theorem go_ne {a : Wk} {s : Sg} (hs : s ∈ nxW a) : isOver a = false := by
  cases h : isOver a with
  | false => rfl
  | true => rw [over_of h] at hs; simp [nxW, nxWs] at hs
theorem bes_pathL {a v : Wk} {r : List Sg} (h : Path a r v) {b : Wk} (tb : tidyW b = b) : tidyW a = a → Path (tidyW (.bes a b)) (r.map .left) (tidyW (.bes v b)) := by
  induction h with
  | nil w => exact fun _ => .nil _
  | @cons w v s ss h k ih =>
    intro t
    have e : tidyW (.bes w b) = .bes w b := by rw [tidyW, t, tb, go_ne h]; rfl
    rw [List.map_cons, e]
    refine .cons (by rw [nxW]; exact List.mem_append_left _ (List.mem_map.mpr ⟨s, h, rfl⟩)) ?_
    have e2 : aft (.bes w b) (.left s) = tidyW (.bes (aft w s) b) := by
      unfold aft
      rw [tidy_besL, show behW (.bes w b) (.left s) = .bes (behW w s) b from by simp [behW]]
    rw [e2]
    exact ih (tidy_idem _).1
theorem bes_pathR {b v : Wk} {r : List Sg} (h : Path b r v) {a : Wk} (ta : tidyW a = a) : tidyW b = b → Path (tidyW (.bes a b)) (r.map .right) (tidyW (.bes a v)) := by
  induction h with
  | nil w => exact fun _ => .nil _
  | @cons w v s ss h k ih =>
    intro t
    have e : tidyW (.bes a w) = .bes a w := by rw [tidyW, t, ta, go_ne h, Bool.and_false]; rfl
    rw [List.map_cons, e]
    refine .cons (by rw [nxW]; exact List.mem_append_right _ (List.mem_map.mpr ⟨s, h, rfl⟩)) ?_
    have e2 : aft (.bes a w) (.right s) = tidyW (.bes a (aft w s)) := by
      unfold aft
      rw [tidy_besR, show behW (.bes a w) (.right s) = .bes a (behW w s) from by simp [behW]]
    rw [e2]
    exact ih (tidy_idem _).1
mutual
def Sh : Wk → List Sg → Prop
  | .tick n, r => r = List.replicate n.toNat .tick
  | .sme a _ t, r => r = if t = true then .many a :: List.replicate a.toNat .tick else List.replicate a.toNat .tick ++ [.fin]
  | .lop a _ t w, r => ∃ o, Sh w o ∧ r = if t = true then .many a :: (List.replicate a.toNat o).flatten else (List.replicate a.toNat (.more :: o)).flatten ++ [.fin]
  | .eit ws, r => ∃ i o, ShE ws i o ∧ r = .way i :: o
  | .row ws, r => ShR ws r
  | .bes a b, r => ∃ x y, Sh a x ∧ Sh b y ∧ r = x.map .left ++ y.map .right
def ShE : List Wk → Nat → List Sg → Prop
  | [], _, _ => False
  | w :: _, 0, o => Sh w o
  | _ :: ws, i + 1, o => ShE ws i o
def ShR : List Wk → List Sg → Prop
  | [], r => r = []
  | w :: ws, r => ∃ a b, Sh w a ∧ ShR ws b ∧ r = a ++ b
end
theorem ShE_at : ∀ {ws : List Wk} {i : Nat} {o : List Sg}, ShE ws i o ↔ ∃ w, ws[i]? = some w ∧ Sh w o
  | [], i, o => by simp [ShE]
  | w :: ws, 0, o => by simp [ShE]
  | w :: ws, i + 1, o => by rw [ShE, ShE_at (ws := ws)]; simp
theorem over_row (ws : List Wk) : tidyW (.row (.row [] :: ws)) = tidyW (.row ws) := by rw [tidyW, tidyW, flatW, tidy_over]; rfl
theorem tick_path : ∀ (k : Nat), Path (tkW k) (List.replicate k .tick) (.row [])
  | 0 => by unfold tkW; rw [if_neg (by omega)]; exact .nil _
  | k + 1 => by
    unfold tkW
    rw [if_pos (by omega), List.replicate_succ]
    refine .cons (by simp [nxW]) ?_
    have e : aft (.tick ((k + 1 : Nat) : Int)) .tick = tkW k := by
      unfold aft
      rw [show behW (.tick ((k + 1 : Nat) : Int)) .tick = tkW (((k + 1 : Nat) : Int) - 1) from by simp [behW], tidy_tk]
      congr 1; omega
    rw [e]
    exact tick_path k
theorem sme_path : ∀ (a : Nat) (b : Int), (a : Int) ≤ b → Path (.sme a b false) (List.replicate a .tick ++ [.fin]) (.row [])
  | 0, b, h => by
    refine .cons (by rw [nxW, if_neg (by decide)]; exact List.mem_append_right _ (by simp)) ?_
    have e : aft (.sme ((0 : Nat) : Int) b false) .fin = .row [] := by unfold aft; simp [behW, tidy_over]
    rw [e]; exact .nil _
  | a + 1, b, h => by
    rw [List.replicate_succ, List.cons_append]
    refine .cons (by rw [nxW, if_neg (by decide)]; exact List.mem_append_left _ (by rw [if_pos (by omega)]; simp)) ?_
    have e : aft (.sme ((a + 1 : Nat) : Int) b false) .tick = .sme a (b - 1) false := by
      unfold aft
      rw [show behW (.sme ((a + 1 : Nat) : Int) b false) .tick = .sme (dec0 ((a + 1 : Nat) : Int)) (b - 1) false from by simp [behW], tidyW]
      · congr 1; unfold dec0; split <;> omega
      · simp
      · simp
    rw [e]
    exact sme_path a (b - 1) (by omega)
theorem lop_path {w : Wk} {o : List Sg} (ho : Path (tidyW w) o (.row [])) : ∀ (a : Nat) (b : Int), (a : Int) ≤ b → Path (.lop a b false w) ((List.replicate a (.more :: o)).flatten ++ [.fin]) (.row [])
  | 0, b, h => by
    refine .cons (by rw [nxW, if_neg (by decide)]; exact List.mem_append_right _ (by simp)) ?_
    have e : aft (.lop ((0 : Nat) : Int) b false w) .fin = .row [] := by unfold aft; simp [behW, tidy_over]
    rw [e]; exact .nil _
  | a + 1, b, h => by
    rw [List.replicate_succ, List.flatten_cons, List.cons_append, List.cons_append, List.append_assoc]
    refine .cons (by rw [nxW, if_neg (by decide)]; exact List.mem_append_left _ (by rw [if_pos (by omega)]; simp)) ?_
    have e : aft (.lop ((a + 1 : Nat) : Int) b false w) .more = tidyW (.row [tidyW w, .lop a (b - 1) false w]) := by
      unfold aft
      rw [show behW (.lop ((a + 1 : Nat) : Int) b false w) .more = .row [w, .lop (dec0 ((a + 1 : Nat) : Int)) (b - 1) false w] from by simp [behW], tidy_rowC, show dec0 ((a + 1 : Nat) : Int) = (a : Int) from by unfold dec0; split <;> omega]
    rw [e]
    have p1 := row_path ho [.lop a (b - 1) false w] (tidy_idem w).1
    refine path_app p1 ?_
    have e2 : tidyW (.row [.row [], .lop a (b - 1) false w]) = .lop a (b - 1) false w := by
      rw [over_row, tidyW, flatW, flatW]; simp [tidyW, inRow, mkRow]
    rw [e2]
    exact lop_path ho a (b - 1) (by omega)
theorem rep_path {w : Wk} {o : List Sg} (ho : Path (tidyW w) o (.row [])) : ∀ (a : Nat), Path (tidyW (.row (List.replicate a w))) (List.replicate a o).flatten (.row [])
  | 0 => by rw [List.replicate_zero, List.replicate_zero, tidy_over]; exact .nil _
  | a + 1 => by
    rw [List.replicate_succ, List.replicate_succ, List.flatten_cons, ← tidy_rowC]
    have p1 := row_path ho (List.replicate a w) (tidy_idem w).1
    rw [over_row] at p1
    exact path_app p1 (rep_path ho a)
mutual
theorem sh_path {B : Int} : ∀ (w : Wk) (r : List Sg), okW B w → Sh w r → Path (tidyW w) r (.row [])
  | .tick n, r, h, e => by
    rw [okW] at h
    rw [Sh] at e; subst e
    have p := tick_path n.toNat
    rw [show ((n.toNat : Nat) : Int) = n from by omega] at p
    unfold tkW at p
    rw [if_pos (by omega)] at p
    simpa [tidyW] using p
  | .sme a b true, r, h, e => by
    rw [okW] at h
    rw [Sh, if_pos rfl] at e; subst e
    rw [show tidyW (.sme a b true) = .sme a b true from by simp [tidyW]]
    refine .cons (by rw [nxW, if_pos rfl]; exact manyS_of (by omega) (by omega)) ?_
    have e : aft (.sme a b true) (.many a) = tkW a := by unfold aft; rw [show behW (.sme a b true) (.many a) = tkW a from by simp [behW], tidy_tk]
    rw [e]
    have p := tick_path a.toNat
    rwa [show ((a.toNat : Nat) : Int) = a from by omega] at p
  | .sme a b false, r, h, e => by
    rw [okW] at h
    rw [Sh, if_neg (by decide)] at e; subst e
    rw [show tidyW (.sme a b false) = .sme a b false from by simp [tidyW]]
    have p := sme_path a.toNat b (by omega)
    rwa [show ((a.toNat : Nat) : Int) = a from by omega] at p
  | .lop a b true w, r, h, e => by
    rw [okW] at h
    rw [Sh] at e
    obtain ⟨o, ho, e⟩ := e
    rw [if_pos rfl] at e; subst e
    have po := sh_path w o h.2.2.2 ho
    rw [show tidyW (.lop a b true w) = .lop a b true w from by simp [tidyW]]
    refine .cons (by rw [nxW, if_pos rfl]; exact manyS_of (by omega) (by omega)) ?_
    unfold aft
    rw [show behW (.lop a b true w) (.many a) = .row (List.replicate a.toNat w) from by simp [behW]]
    exact rep_path po a.toNat
  | .lop a b false w, r, h, e => by
    rw [okW] at h
    rw [Sh] at e
    obtain ⟨o, ho, e⟩ := e
    rw [if_neg (by decide)] at e; subst e
    have po := sh_path w o h.2.2.2 ho
    rw [show tidyW (.lop a b false w) = .lop a b false w from by simp [tidyW]]
    have p := lop_path po a.toNat b (by omega)
    rwa [show ((a.toNat : Nat) : Int) = a from by omega] at p
  | .eit ws, r, h, e => by
    rw [okW] at h
    rw [Sh] at e
    obtain ⟨i, o, ho, rfl⟩ := e
    have po := she_path ws i o h.2 ho
    have hi : i < ws.length := by
      obtain ⟨w, hw, -⟩ := ShE_at.mp ho
      exact (List.getElem?_eq_some_iff.mp hw).1
    rw [show tidyW (.eit ws) = .eit ws from by simp [tidyW]]
    refine .cons (by rw [nxW]; exact List.mem_map.mpr ⟨i, List.mem_range.mpr hi, rfl⟩) ?_
    unfold aft
    rw [show behW (.eit ws) (.way i) = ws.getD i (.row []) from by simp [behW]]
    exact po
  | .row ws, r, h, e => by
    rw [okW] at h
    rw [Sh] at e
    exact shr_path ws r h e
  | .bes a b, r, h, e => by
    rw [okW] at h
    rw [Sh] at e
    obtain ⟨x, y, hx, hy, rfl⟩ := e
    have px := sh_path a x h.1 hx
    have py := sh_path b y h.2 hy
    have p1 := bes_pathL px (b := tidyW b) (tidy_idem b).1 (tidy_idem a).1
    have p2 := bes_pathR py (a := .row []) tidy_over (tidy_idem b).1
    rw [tidy_besL, tidy_besR] at p1
    have e : tidyW (.bes (.row []) (.row [])) = .row [] := by rw [tidyW, tidy_over]; rfl
    rw [e] at p2
    exact path_app p1 p2
theorem she_path {B : Int} : ∀ (ws : List Wk) (i : Nat) (o : List Sg), okWs B ws → ShE ws i o → Path (tidyW (ws.getD i (.row []))) o (.row [])
  | [], _, _, _, e => by rw [ShE] at e; exact e.elim
  | w :: ws, 0, o, h, e => by
    rw [okWs] at h
    rw [ShE] at e
    exact sh_path w o h.1 e
  | w :: ws, i + 1, o, h, e => by
    rw [okWs] at h
    rw [ShE] at e
    have := she_path ws i o h.2 e
    simpa using this
theorem shr_path {B : Int} : ∀ (ws : List Wk) (r : List Sg), okWs B ws → ShR ws r → Path (tidyW (.row ws)) r (.row [])
  | [], r, _, e => by rw [ShR] at e; subst e; rw [tidy_over]; exact .nil _
  | w :: ws, r, h, e => by
    rw [okWs] at h
    rw [ShR] at e
    obtain ⟨x, y, hx, hy, rfl⟩ := e
    have p1 := row_path (sh_path w x h.1 hx) ws (tidy_idem w).1
    rw [tidy_rowC, over_row] at p1
    exact path_app p1 (shr_path ws y h.2 hy)
end
end K27
namespace K27
open PySem L2 Dl K17 K18 K24 K20 K28
local macro_rules | `(tactic| walk_at "ds") => `(tactic| repeat' with_reducible first
  | fail "stuck")
theorem lc2F {α β : Type} (xs : List α) (g : α → D) (ys : α → List β) (gi h : β → D) {wi wj : DTI} {ct cj : CT} {te : DTE} {ρ : DSt} {vs us : List Nat} {G : GH} {Q : DK}
    (hw : ∀ P : List D → (GH → Prop) → GH → Prop, (∀ ok G1, (∀ G, ok G) → Grow G G1 → P (xs.map g) ok G1) → wi ρ G P) (hl : (xs.flatMap ys).length ≤ sizeLine)
    (hf : ∀ x ∈ xs, ∃ ρ2, bindC ct (g x) (wipeD ρ vs) = some ρ2 ∧ (∀ (G : GH) (P : List D → (GH → Prop) → GH → Prop), (∀ ok1 G1, (∀ G, ok1 G) → Grow G G1 → P ((ys x).map gi) ok1 G1) → wj ρ2 G P) ∧
      ∀ y ∈ ys x, ∃ ρ3, bindC cj (gi y) (wipeD ρ2 us) = some ρ3 ∧ ∀ (G : GH) (K : DK), (∀ G', Grow G G' → K (h y) G') → te ρ3 G K)
    (hq : ∀ G', Grow G G' → Q (.lst ((xs.flatMap ys).map h)) G') : dLc2 wi ct wj cj te vs us ρ G (frzK Q) := by
  unfold dLc2
  refine hw _ ?_
  intro ok G1 hok g1 p hp
  have key : ∀ (rs : List α) (acc : List D) (G' : GH), (∀ x ∈ rs, x ∈ xs) → acc.length + (rs.flatMap ys).length ≤ sizeLine → acc ++ (rs.flatMap ys).map h = (xs.flatMap ys).map h → Grow G1 G' → G' p = some (.lst acc) →
      dLc2A ok ct wj cj te (wipeD ρ vs) us p (rs.map g) G' (frzK Q) := by
    intro rs
    induction rs with
    | nil =>
      intro acc G' _ _ e g2 ep
      rw [List.map_nil]
      unfold dLc2A
      rw [List.flatMap_nil, List.map_nil, List.append_nil] at e
      subst e
      exact ⟨hok _, frzR ep (hq _ (g1.trans (Grow.drop hp g2)))⟩
    | cons x rs ih =>
      intro acc G' hm hlen e g2 ep
      rw [List.map_cons]
      unfold dLc2A
      obtain ⟨ρ2, e1, hj, hy⟩ := hf x (hm x (List.mem_cons_self ..))
      refine ⟨hok _, ?_⟩
      rw [e1]
      refine hj G' _ ?_
      intro ok1 G2 hok1 g3
      have key2 : ∀ (qs : List β) (acc : List D) (G' : GH), (∀ y ∈ qs, y ∈ ys x) → acc.length + (qs.length + (rs.flatMap ys).length) ≤ sizeLine → acc ++ (qs.map h ++ (rs.flatMap ys).map h) = (xs.flatMap ys).map h → Grow G1 G' → G' p = some (.lst acc) →
          dLc2B ok1 cj te (wipeD ρ2 us) p (qs.map gi) G' (fun G3 => dLc2A ok ct wj cj te (wipeD ρ vs) us p (rs.map g) G3 (frzK Q)) := by
        intro qs
        induction qs with
        | nil =>
          intro acc G' _ hlen e g2 ep
          rw [List.map_nil]
          unfold dLc2B
          rw [List.map_nil, List.nil_append] at e
          exact ⟨hok1 _, ih acc G' (fun z hz => hm z (List.mem_cons_of_mem _ hz)) (by simpa using hlen) e g2 ep⟩
        | cons y qs ih2 =>
          intro acc G' hmq hlen e g2 ep
          rw [List.map_cons]
          unfold dLc2B
          obtain ⟨ρ3, e3, ht⟩ := hy y (hmq y (List.mem_cons_self ..))
          refine ⟨hok1 _, ?_⟩
          rw [e3]
          refine ht G' _ ?_
          intro G4 g4
          have ep4 := g4 _ _ ep
          rw [ep4]
          rw [List.length_cons] at hlen
          refine ⟨by omega, ih2 (acc ++ [h y]) _ (fun z hz => hmq z (List.mem_cons_of_mem _ hz)) (by rw [List.length_append, List.length_singleton]; omega) (by rw [← e]; simp) (Grow.upd2 hp (g2.trans g4)) updG_same⟩
      exact key2 (ys x) acc G2 (fun _ h => h) (by rw [List.flatMap_cons, List.length_append] at hlen; exact hlen) (by rw [← e, List.flatMap_cons, List.map_append]) (g2.trans g3) (g3 _ _ ep)
  exact key xs [] _ (fun _ h => h) (by simpa using hl) (by simp) (Grow.upd2 hp (Grow.refl _)) updG_same
end K27
namespace K27
open PySem L2 Dl K17 K18 K24 K20 K28
local macro_rules | `(tactic| walk_at "ds") => `(tactic| repeat' with_reducible first
  | refine iVar (by with_unfolding_all rfl) ?_
  | refine iCons ?_
  | refine iNil ?_
  | refine iC ?_
  | refine iOp ?_
  | refine iSeq ?_
  | refine iAsg ?_
  | refine iGNm ?_
  | refine iTup ?_
  | refine iFrz ?_
  | refine iTst ?_
  | refine iRet ?_
  | refine iCall ?_
  | refine iPar ?_
  | refine lenOk (by with_unfolding_all rfl) ?_
  | refine iTru ?_
  | refine truB ?_
  | refine iIf ?_
  | refine ifT ?_
  | refine ifF ?_
  | refine iCB ?_
  | refine iStar ?_
  | refine iMatch ?_
  | refine iISq ?_
  | refine rIx_i (by with_unfolding_all rfl) (by with_unfolding_all rfl) ?_
  | refine rIx_i (by with_unfolding_all rfl) atI_0 ?_
  | refine eq_ii ?_
  | refine caT ?_
  | refine caF (by with_unfolding_all rfl) ?_
  | refine caN ?_
  | refine len_t ?_
  | refine tupC_l ?_
  | refine iIEnT ?_
  | fail "stuck")
def lenMin (l : List (List Sg)) : Int := minL (l.map fun r => (r.length : Int))
def pickS (l : List (List Sg)) : List Sg := (l.filter fun r => decide ((r.length : Int) = lenMin l)).headD []
theorem pickS_of {l : List (List Sg)} (h : l ≠ []) : ∃ xs, (l.filter fun r => decide ((r.length : Int) = lenMin l)) = pickS l :: xs := by
  have m := minL_mem (l := l.map fun r => (r.length : Int)) (by simpa using h)
  obtain ⟨r, hr, e⟩ := List.mem_map.mp m
  have hm : r ∈ l.filter fun r => decide ((r.length : Int) = lenMin l) := List.mem_filter.mpr ⟨hr, decide_eq_true e⟩
  unfold pickS
  cases q : l.filter fun r => decide ((r.length : Int) = lenMin l) with
  | nil => rw [q] at hm; cases hm
  | cons x xs => exact ⟨xs, rfl⟩
theorem pickS_mem {l : List (List Sg)} (h : l ≠ []) : pickS l ∈ l := by
  obtain ⟨xs, e⟩ := pickS_of h
  have : pickS l ∈ l.filter fun r => decide ((r.length : Int) = lenMin l) := by rw [e]; exact List.mem_cons_self ..
  exact (List.mem_filter.mp this).1
mutual
def shW : Wk → List Sg
  | .tick n => List.replicate n.toNat .tick
  | .sme a _ t => if t = true then .many a :: List.replicate a.toNat .tick else List.replicate a.toNat .tick ++ [.fin]
  | .lop a _ t w => if t = true then .many a :: (List.replicate a.toNat (shW w)).flatten else (List.replicate a.toNat (.more :: shW w)).flatten ++ [.fin]
  | .eit ws => pickS (shE ws 0)
  | .row ws => shR ws
  | .bes a b => (shW a).map .left ++ (shW b).map .right
def shE : List Wk → Nat → List (List Sg)
  | [], _ => []
  | w :: ws, i => (.way i :: shW w) :: shE ws (i + 1)
def shR : List Wk → List Sg
  | [] => []
  | w :: ws => shW w ++ shR ws
end
theorem shE_map : ∀ (ws : List Wk) (k : Nat), shE ws k = (List.range ws.length).map fun i => Sg.way (k + i) :: shW (ws.getD i (.row []))
  | [], k => by rw [shE]; rfl
  | w :: ws, k => by
    rw [shE, shE_map ws (k + 1), List.length_cons, List.range_succ_eq_map, List.map_cons, List.map_map]
    rw [List.cons_eq_cons]
    refine ⟨by simp, List.map_congr_left fun i _ => ?_⟩
    simp [Nat.add_assoc, Nat.add_comm 1 i]
theorem shR_map : ∀ ws : List Wk, shR ws = ws.flatMap shW
  | [] => by rw [shR]; rfl
  | w :: ws => by rw [shR, shR_map ws, List.flatMap_cons]
theorem shE_mem {ws : List Wk} {r : List Sg} (h : r ∈ shE ws 0) : ∃ i w, ws[i]? = some w ∧ r = .way i :: shW w := by
  rw [shE_map] at h
  obtain ⟨i, hi, rfl⟩ := List.mem_map.mp h
  rw [List.mem_range] at hi
  exact ⟨i, ws[i], by simp [hi], by simp [List.getD, hi]⟩
theorem shE_ne {ws : List Wk} (h : ws ≠ []) (k : Nat) : shE ws k ≠ [] := by cases ws with | nil => exact absurd rfl h | cons w ws => rw [shE]; simp
mutual
theorem sh_sh {B : Int} : ∀ w : Wk, okW B w → Sh w (shW w)
  | .tick n, _ => by rw [Sh, shW]
  | .sme a b t, _ => by rw [Sh, shW]
  | .lop a b t w, h => by rw [okW] at h; rw [Sh, shW]; exact ⟨shW w, sh_sh w h.2.2.2, rfl⟩
  | .eit ws, h => by
    rw [okW] at h
    rw [Sh, shW]
    obtain ⟨i, w, hw, e⟩ := shE_mem (pickS_mem (shE_ne h.1 0))
    exact ⟨i, shW w, ShE_at.mpr ⟨w, hw, (sh_shs ws h.2).1 w (List.mem_of_getElem? hw)⟩, e⟩
  | .row ws, h => by rw [okW] at h; rw [Sh, shW]; exact (sh_shs ws h).2
  | .bes a b, h => by rw [okW] at h; rw [Sh, shW]; exact ⟨_, _, sh_sh a h.1, sh_sh b h.2, rfl⟩
theorem sh_shs {B : Int} : ∀ ws : List Wk, okWs B ws → (∀ w ∈ ws, Sh w (shW w)) ∧ ShR ws (shR ws)
  | [], _ => by simp [ShR, shR]
  | w :: ws, h => by
    rw [okWs] at h
    have h1 := sh_sh w h.1
    have h2 := sh_shs ws h.2
    refine ⟨fun x hx => ?_, ?_⟩
    · rcases List.mem_cons.mp hx with q | q
      · rw [q]; exact h1
      · exact h2.1 x q
    · rw [ShR, shR]; exact ⟨_, _, h1, h2.2, rfl⟩
end
theorem len_rep {α : Type} (k : Nat) (l : List α) : (List.replicate k l).flatten.length = k * l.length := by
  induction k with
  | zero => simp
  | succ k ih => rw [List.replicate_succ, List.flatten_cons, List.length_append, ih, Nat.succ_mul]; omega
mutual
theorem sh_len {B : Int} : ∀ w : Wk, okW B w → (shW w).length ≤ mW w
  | .tick n, _ => by rw [shW, mW]; simp
  | .sme a b t, h => by rw [okW] at h; rw [shW, mW]; split <;> simp <;> omega
  | .lop a b t w, h => by
    rw [okW] at h
    have ih := sh_len w h.2.2.2
    have h1 : a.toNat * ((shW w).length + 1) ≤ b.toNat * (mW w + 1) := Nat.mul_le_mul (by omega) (by omega)
    have h2 : a.toNat * (shW w).length ≤ a.toNat * ((shW w).length + 1) := Nat.mul_le_mul_left _ (by omega)
    rw [shW, mW]
    split
    · rw [List.length_cons, len_rep]; omega
    · rw [List.length_append, len_rep, List.length_cons, List.length_singleton]; omega
  | .eit ws, h => by
    rw [okW] at h
    rw [shW, mW]
    obtain ⟨i, w, hw, e⟩ := shE_mem (pickS_mem (shE_ne h.1 0))
    have m := List.mem_of_getElem? hw
    have h1 := (sh_lens ws h.2).1 w m
    have h2 := mWs_mem m
    rw [e, List.length_cons]; omega
  | .row ws, h => by rw [okW] at h; rw [shW, mW]; exact (sh_lens ws h).2
  | .bes a b, h => by
    rw [okW] at h
    have h1 := sh_len a h.1
    have h2 := sh_len b h.2
    rw [shW, mW, List.length_append, List.length_map, List.length_map]; omega
theorem sh_lens {B : Int} : ∀ ws : List Wk, okWs B ws → (∀ w ∈ ws, (shW w).length ≤ mW w) ∧ (shR ws).length ≤ mWs ws
  | [], _ => by simp [shR, mWs]
  | w :: ws, h => by
    rw [okWs] at h
    have h1 := sh_len w h.1
    have h2 := sh_lens ws h.2
    refine ⟨fun x hx => ?_, ?_⟩
    · rcases List.mem_cons.mp hx with q | q
      · rw [q]; exact h1
      · exact h2.1 x q
    · rw [shR, mWs, List.length_append]; have := h2.2; omega
end
def RSh (n : Nat) : List D → D → Prop := fun ds d => ∃ w, ds = [toD w] ∧ okW 12 w ∧ zW w ≤ 270 ∧ dpW w ≤ n ∧ d = runD (shW w)
theorem run_rep (k : Nat) (o : List Sg) : (List.replicate k (o.map sgD)).flatten = (List.replicate k o).flatten.map sgD := by
  induction k with
  | zero => rfl
  | succ k ih => rw [List.replicate_succ, List.flatten_cons, ih, List.replicate_succ, List.flatten_cons, List.map_append]
theorem shortest_run_rd {n : Nat} : ∀ ds G Q E, pSp (RSh (n + 1)) ds G Q E → r_shortest_run (pSp (RSh n)) { nx := fun _ G' => Q .non G', rt := Q } (startD 10 ds) G := by
  rintro ds G Q E ⟨d, ⟨w, rfl, ho, hz, hd, rfl⟩, hq⟩
  unfold r_shortest_run
  have hlen : (shW w).length ≤ 1890 := by have := sh_len w ho; have := m_le_z w ho; omega
  cases w with
  | tick k =>
    rw [okW] at ho
    rw [toD]; walk_at "ds"
    refine mul_ti (by omega) (by omega) (by simp) ?_
    rw [rep_one]
    have e := hq _ (Grow.refl _)
    simp only [shW, runD, List.map_replicate, sgD] at e
    exact e
  | sme a b t =>
    rw [okW] at ho
    rw [toD]; walk_at "ds"
    refine mul_ti (by omega) (by omega) (by simp) ?_
    rw [rep_one]
    cases t with
    | true =>
      walk_at "ds"
      rw [show ∀ (G : GH), sqOf G (.tup (List.replicate a.toNat (.str "tick"))) = some (List.replicate a.toNat (.str "tick")) from fun _ => rfl]
      dsimp only
      walk_at "ds"
      refine ⟨by rw [List.append_nil, List.length_cons, List.length_replicate, sizeL]; omega, ?_⟩
      have e := hq _ (Grow.refl _)
      simp only [shW, runD, List.map_cons, List.map_replicate, sgD, if_true] at e
      rw [List.append_nil]
      exact e
    | false =>
      walk_at "ds"
      rw [show ∀ (G : GH), sqOf G (.tup (List.replicate a.toNat (.str "tick"))) = some (List.replicate a.toNat (.str "tick")) from fun _ => rfl]
      dsimp only
      walk_at "ds"
      refine ⟨by rw [List.length_append, List.length_replicate, sizeL, List.length_singleton]; omega, ?_⟩
      have e := hq _ (Grow.refl _)
      rw [shW, if_neg (by decide)] at e
      simp only [runD, List.map_append, List.map_replicate, sgD, List.map_cons, List.map_nil] at e
      exact e
  | lop a b t w =>
    rw [okW] at ho
    rw [zW] at hz
    rw [dpW] at hd
    have hm1 : 1 * (zW w + 1) ≤ (b.toNat + 1) * (zW w + 1) := Nat.mul_le_mul (by omega) (by omega)
    have hl := sh_len w ho.2.2.2
    have hmz := m_le_z w ho.2.2.2
    have hsm : (shW w).length ≤ 900 ∨ a ≤ 1 := by
      by_cases h : a ≤ 1
      · exact .inr h
      · have hm3 : 3 * (zW w + 1) ≤ (b.toNat + 1) * (zW w + 1) := Nat.mul_le_mul (by omega) (by omega)
        exact .inl (by omega)
    have hal : a.toNat * ((shW w).length + 1) ≤ 12 * 2000 := Nat.mul_le_mul (by omega) (by omega)
    have hal2 : a.toNat * (shW w).length ≤ 12 * 2000 := Nat.mul_le_mul (by omega) (by omega)
    rw [toD]; walk_at "ds"
    refine ⟨_, ⟨w, rfl, ho.2.2.2, by omega, by omega, rfl⟩, fun G1 g1 => ?_⟩
    cases t with
    | true =>
      walk_at "ds"
      refine mul_ti' (by omega) (by omega) (by rw [List.length_map]; omega) ?_
      rw [run_rep]
      rw [show ∀ (G : GH) (l : List D), sqOf G (.tup l) = some l from fun _ _ => rfl]
      dsimp only
      walk_at "ds"
      refine ⟨by rw [List.append_nil, List.length_cons, List.length_map, len_rep, sizeL]; omega, ?_⟩
      have e := hq _ g1
      simp only [shW, runD, List.map_cons, sgD, if_true] at e
      rw [List.append_nil]
      exact e
    | false =>
      walk_at "ds"
      rw [show ∀ (G : GH), sqOf G (runD (shW w)) = some ((shW w).map sgD) from fun _ => rfl]
      dsimp only
      walk_at "ds"
      refine ⟨by rw [List.append_nil, List.length_cons, List.length_map, sizeL]; omega, ?_⟩
      rw [List.append_nil]
      walk_at "ds"
      refine mul_ti' (by omega) (by omega) (by rw [List.length_cons, List.length_map]; omega) ?_
      rw [show (D.str "more" :: (shW w).map sgD) = (Sg.more :: shW w).map sgD from rfl, run_rep]
      walk_at "ds"
      refine ⟨by rw [List.length_map, len_rep, List.length_singleton, List.length_cons, sizeL]; omega, ?_⟩
      have e := hq _ g1
      rw [shW, if_neg (by decide)] at e
      simp only [runD, List.map_append, List.map_cons, List.map_nil, sgD] at e
      exact e
  | eit ws =>
    rw [okW] at ho
    rw [zW] at hz
    rw [dpW] at hd
    have hl := len_zWs ws
    obtain ⟨L, hL⟩ : ∃ L, L = shE ws 0 := ⟨_, rfl⟩
    have hne : L ≠ [] := by rw [hL]; exact shE_ne ho.1 0
    have hLl : L.length = ws.length := by rw [hL, shE_map]; simp
    have hLs : ∀ r ∈ L, r.length ≤ 1900 := fun r hr => by
      rw [hL] at hr
      obtain ⟨i, w, hw, rfl⟩ := shE_mem hr
      have m := List.mem_of_getElem? hw
      have h1 := sh_len w (okWs_iff.mp ho.2 _ m)
      have h2 := m_le_z w (okWs_iff.mp ho.2 _ m)
      have h3 := zWs_mem m
      rw [List.length_cons]; omega
    rw [toD]; walk_at "ds"
    refine lcF (List.range ws.length) (fun i => .tup [.int (i : Nat), (toDs ws).getD i .non]) (fun i => runD (.way (0 + i) :: shW (ws.getD i (.row [])))) ?_ (by rw [sizeL, List.length_range]; omega) ?_ ?_
    · intro P hP
      walk_at "ds"
      show P (enumD (toDs ws)) okAll G
      rw [enumD_map, toDs_len]
      exact hP _ _ (fun _ => trivial) (Grow.refl _)
    · intro i hi
      rw [List.mem_range] at hi
      have m : ws[i] ∈ ws := List.getElem_mem hi
      have h1 := zWs_mem m
      have h2 := dpWs_mem m
      have h3 := sh_len _ (okWs_iff.mp ho.2 _ m)
      have h4 := m_le_z _ (okWs_iff.mp ho.2 _ m)
      have e0 : (toDs ws).getD i .non = toD ws[i] := by rw [toDs_map]; simp [List.getD, hi]
      rw [e0, show ws.getD i (.row []) = ws[i] from by simp [List.getD, hi]]
      refine ⟨_, rfl, fun G1 K hK => ?_⟩
      walk_at "ds"
      refine ⟨_, ⟨ws[i], rfl, okWs_iff.mp ho.2 _ m, by omega, by omega, rfl⟩, fun G2 g2 => ?_⟩
      dsimp only
      rw [show ∀ (G : GH), sqOf G (runD (shW ws[i])) = some ((shW ws[i]).map sgD) from fun _ => rfl]
      dsimp only
      walk_at "ds"
      refine ⟨by rw [List.append_nil, List.length_cons, List.length_map, sizeL]; omega, ?_⟩
      have e := hK G2 g2
      simp only [runD, List.map_cons, sgD, Nat.zero_add] at e
      rw [List.append_nil]
      exact e
    intro G1 g1
    rw [show (List.range ws.length).map (fun i => runD (.way (0 + i) :: shW (ws.getD i (.row [])))) = L.map runD from by rw [hL, shE_map, List.map_map]; rfl]
    walk_at "ds"
    refine lcFt L runD runD (fun r => decide ((r.length : Int) = lenMin L)) ?_ (by rw [sizeL]; omega) ?_ ?_
    · intro P hP
      walk_at "ds"
      exact hP _ _ (fun _ => trivial) (Grow.refl _)
    · intro r hr
      refine ⟨_, rfl, fun G2 K hK => ?_, fun _ G2 K hK => ?_⟩
      · unfold runD
        walk_at "ds"
        refine lcF L runD (fun r => D.int (r.length : Int)) ?_ (by rw [sizeL]; omega) ?_ ?_
        · intro P hP
          walk_at "ds"
          exact hP _ _ (fun _ => trivial) (Grow.refl _)
        · intro o ho
          refine ⟨_, rfl, fun G3 K3 hK3 => ?_⟩
          unfold runD
          walk_at "ds"
          have e := hK3 _ (Grow.refl _)
          rw [List.length_map]
          exact e
        intro G3 g3
        rw [show L.map (fun r => D.int (r.length : Int)) = (L.map fun r => (r.length : Int)).map D.int from by rw [List.map_map]; rfl]
        walk_at "ds"
        refine min_i (by simpa using hne) ?_
        walk_at "ds"
        rw [List.length_map]
        exact hK _ g3
      · walk_at "ds"
        exact hK _ (Grow.refl _)
    intro G2 g2
    obtain ⟨xs, ex⟩ := pickS_of hne
    rw [ex, List.map_cons]
    walk_at "ds"
    have e := hq _ (g1.trans g2)
    rw [shW, ← hL] at e
    exact e
  | bes a b =>
    rw [okW] at ho
    rw [zW] at hz
    rw [dpW] at hd
    have h1 := sh_len a ho.1
    have h2 := sh_len b ho.2
    have h3 := m_le_z a ho.1
    have h4 := m_le_z b ho.2
    rw [toD]; walk_at "ds"
    refine ⟨_, ⟨a, rfl, ho.1, by omega, by omega, rfl⟩, fun G1 g1 => ?_⟩
    walk_at "ds"
    refine ⟨_, ⟨b, rfl, ho.2, by omega, by omega, rfl⟩, fun G2 g2 => ?_⟩
    unfold runD
    walk_at "ds"
    refine lcF (shW a) sgD (fun s => sgD (.left s)) ?_ (by rw [sizeL]; omega) ?_ ?_
    · intro P hP
      walk_at "ds"
      exact hP _ _ (fun _ => trivial) (Grow.refl _)
    · intro s hs
      refine ⟨_, rfl, fun G3 K hK => ?_⟩
      walk_at "ds"
      have e := hK _ (Grow.refl _)
      simp only [sgD] at e
      exact e
    intro G3 g3
    walk_at "ds"
    refine lcF (shW b) sgD (fun s => sgD (.right s)) ?_ (by rw [sizeL]; omega) ?_ ?_
    · intro P hP
      walk_at "ds"
      exact hP _ _ (fun _ => trivial) (Grow.refl _)
    · intro s hs
      refine ⟨_, rfl, fun G3 K hK => ?_⟩
      walk_at "ds"
      have e := hK _ (Grow.refl _)
      simp only [sgD] at e
      exact e
    intro G4 g4
    walk_at "ds"
    refine add_ll (by rw [List.length_map, List.length_map, sizeL]; omega) ?_
    intro p hp
    refine frzR updG_same ?_
    walk_at "ds"
    have e := fun o => hq _ ((((g1.trans g2).trans g3).trans g4).trans (Grow.drop hp (Grow.upd (o := o) hp)))
    simp only [shW, runD, List.map_append, List.map_map] at e
    exact e _
  | row ws =>
    rw [okW] at ho
    rw [zW] at hz
    rw [dpW] at hd
    have hl := len_zWs ws
    rw [shW] at hlen
    rw [toD]; walk_at "ds"
    refine lc2F ws toD shW sgD sgD ?_ (by rw [← shR_map, sizeL]; omega) ?_ ?_
    · intro P hP
      walk_at "ds"
      rw [toDs_map]
      exact hP _ _ (fun _ => trivial) (Grow.refl _)
    · intro w hw
      have h1 := zWs_mem hw
      have h2 := dpWs_mem hw
      refine ⟨_, rfl, fun G1 P hP => ?_, fun s hs => ⟨_, rfl, fun G1 K hK => ?_⟩⟩
      · walk_at "ds"
        refine ⟨_, ⟨w, rfl, okWs_iff.mp ho _ hw, by omega, by omega, rfl⟩, fun G2 g2 => ?_⟩
        unfold runD
        walk_at "ds"
        exact hP _ _ (fun _ => trivial) g2
      · walk_at "ds"
        exact hK _ (Grow.refl _)
    intro G' g
    walk_at "ds"
    have e := hq _ g
    rw [shW, shR_map] at e
    exact e
end K27
namespace Dl
open PySem L2 PySem.W PySem.SeqAt PyProof.Rows
open AutoSeq1 (wpAny_loadPart')
open MeetsSeq MeetsSeq2 MeetsSeq3 SeqRoads2
structure LtAsk (A : Around) (s : Shared) (p q : Array Value) (e r : Nat → Bool) : Prop where
  eq : ∀ j (h1 : j < p.size) (h2 : j < q.size), (∀ i, i < j → e i = true) → EqAt A s p[j] q[j] (e j)
  lt : ∀ j (h1 : j < p.size) (h2 : j < q.size), (∀ i, i < j → e i = true) → e j = false → RcLt A s p[j] q[j] (r j)
end Dl
namespace Dl
open PySem L2 PySem.W PySem.SeqAt PyProof.Rows
mutual
def cmpb : PyData → PyData → Bool
  | .bool _, .bool _ => true
  | .int _, .int _ => true
  | .str _, .str _ => true
  | .tuple xs, .tuple ys => cmpbs xs ys
  | _, _ => false
def cmpbs : List PyData → List PyData → Bool
  | x :: xs, y :: ys => cmpb x y && (!PyData.eqv x y || cmpbs xs ys)
  | _, _ => true
end
abbrev tlt (a b : List (Int ⊕ List Nat)) : Bool := lexLt itemOrd a b
theorem tlt_atom {t u : Int ⊕ List Nat} (h : t ≠ u) (l m : List (Int ⊕ List Nat)) : tlt ([t] ++ l) ([u] ++ m) = tlt [t] [u] := by
  show lexLt itemOrd (t :: l) (u :: m) = lexLt itemOrd [t] [u]
  rw [lex_diff (O := itemOrd) h, lex_diff (O := itemOrd) h]
theorem cmpbs_cons {x y : PyData} {xs ys : List PyData} (h : cmpbs (x :: xs) (y :: ys) = true) : cmpb x y = true ∧ (PyData.eqv x y = true → cmpbs xs ys = true) := by
  rw [cmpbs, Bool.and_eq_true] at h
  refine ⟨h.1, fun e => ?_⟩
  have := h.2
  rw [e] at this
  simpa using this
mutual
theorem toks_c : ∀ x y : PyData, cmpb x y = true → (PyData.eqv x y = true → keyToks x = keyToks y) ∧ (PyData.eqv x y = false → ∀ l m, tlt (keyToks x ++ l) (keyToks y ++ m) = tlt (keyToks x) (keyToks y))
  | .bool a, y, h => by
    cases y with
    | bool b =>
      simp only [keyToks, PyData.eqv]
      refine ⟨fun e => ?_, fun e l m => tlt_atom ?_ l m⟩
      · have : a = b := by simpa using e
        rw [this]
      · cases a <;> cases b <;> simp at e ⊢
    | _ => simp [cmpb] at h
  | .int a, y, h => by
    cases y with
    | int b =>
      simp only [keyToks, PyData.eqv]
      refine ⟨fun e => ?_, fun e l m => tlt_atom ?_ l m⟩
      · have : a = b := by simpa using e
        rw [this]
      · have : a ≠ b := by simpa using e
        simpa using this
    | _ => simp [cmpb] at h
  | .str a, y, h => by
    cases y with
    | str b =>
      simp only [keyToks, PyData.eqv]
      refine ⟨fun e => ?_, fun e l m => tlt_atom ?_ l m⟩
      · have : a = b := by simpa using e
        rw [this]
      · have : a ≠ b := by simpa using e
        intro z
        exact this (str_of_cps (by simpa using z))
    | _ => simp [cmpb] at h
  | .tuple xs, y, h => by
    cases y with
    | tuple ys =>
      simp only [keyToks, PyData.eqv]
      exact toks_cs xs ys (by simpa [cmpb] using h)
    | _ => simp [cmpb] at h
  | .none, y, h => by cases y <;> simp [cmpb] at h
  | .list _, y, h => by cases y <;> simp [cmpb] at h
  | .dict _, y, h => by cases y <;> simp [cmpb] at h
theorem toks_cs : ∀ xs ys : List PyData, cmpbs xs ys = true → (PyData.eqvAll xs ys = true → keyToksAll xs = keyToksAll ys) ∧ (PyData.eqvAll xs ys = false → ∀ l m, tlt (keyToksAll xs ++ l) (keyToksAll ys ++ m) = tlt (keyToksAll xs) (keyToksAll ys))
  | [], [], _ => ⟨fun _ => rfl, fun e => by simp [PyData.eqvAll] at e⟩
  | [], y :: ys, _ => by
    refine ⟨fun e => by simp [PyData.eqvAll] at e, fun _ l m => ?_⟩
    rw [toks_all_cons]
    simp only [keyToksAll, List.cons_append]
    show lexLt itemOrd _ _ = lexLt itemOrd _ _
    rw [lex_diff (O := itemOrd) (by simp), lex_diff (O := itemOrd) (by simp)]
  | x :: xs, [], _ => by
    refine ⟨fun e => by simp [PyData.eqvAll] at e, fun _ l m => ?_⟩
    rw [toks_all_cons]
    simp only [keyToksAll, List.cons_append]
    show lexLt itemOrd _ _ = lexLt itemOrd _ _
    rw [lex_diff (O := itemOrd) (by simp), lex_diff (O := itemOrd) (by simp)]
  | x :: xs, y :: ys, h => by
    obtain ⟨h1, h2⟩ := cmpbs_cons h
    have k1 := toks_c x y h1
    rw [eqv_all_cons, toks_all_cons, toks_all_cons]
    cases e : PyData.eqv x y with
    | true =>
      have k2 := toks_cs xs ys (h2 e)
      rw [Bool.true_and, k1.1 e]
      refine ⟨fun e2 => by rw [k2.1 e2], fun e2 l m => ?_⟩
      have := k2.2 e2 l m
      simp only [List.cons_append, List.append_assoc]
      show lexLt itemOrd _ _ = lexLt itemOrd _ _
      rw [lex_self, lex_self, lex_pre, lex_pre]
      exact this
    | false =>
      refine ⟨fun e2 => by simp at e2, fun _ l m => ?_⟩
      simp only [List.cons_append, List.append_assoc]
      show lexLt itemOrd _ _ = lexLt itemOrd _ _
      rw [lex_self, lex_self]
      exact (k1.2 e _ _).trans (k1.2 e _ _).symm
end
end Dl
namespace Dl
open PySem L2 PySem.W PySem.SeqAt PyProof.Rows
noncomputable def ltv (h : Heap) (v u : Value) : Bool := tlt (keyToks (readOf h v)) (keyToks (readOf h u))
structure Srt (ds : List PyData) : Prop where
  one : ∀ d, d ∈ ds → d.plain = true ∧ d.depth ≤ 60 ∧ ∃ i r, d = .tuple (.int i :: r)
  two : ∀ d, d ∈ ds → ∀ d', d' ∈ ds → cmpb d d' = true
section
variable {prog : Program} {w : World} {A : Around} {E : Value → Shared → Prop} {s : Shared}
end
end Dl
namespace Dl
open PySem L2
inductive Ech {α β : Type} (R : α → β → Prop) : List α → List β → Prop
  | nil : Ech R [] []
  | cons {a : α} {b : β} {as : List α} {bs : List β} : R a b → Ech R as bs → Ech R (a :: as) (b :: bs)
theorem pureDs_iff : ∀ {l : List D}, pureDs l = true ↔ ∀ d ∈ l, pureD d = true
  | [] => by simp [pureDs]
  | d :: l => by rw [pureDs, Bool.and_eq_true, pureDs_iff (l := l)]; simp
theorem reads_of {X : Cx} {pins : List (Addr × Obj)} {σ : L2.St} {H : Hp} {s : Shared} {G : GH} (I : Inv X pins σ H s) (g : GOk X.K G H) : ∀ {ds : List D} {xs : List V} {us : List Value}, pureDs ds = true → RepL X.K G H ds xs → Vals xs us →
    Ech (fun u d => ∃ as, Reads s.heap u (pyD d) as) us ds
  | [], _, us, _, h, r => by
    unfold RepL at h; subst h
    cases r; exact .nil
  | d :: ds, _, us, hp, h, r => by
    unfold RepL at h
    obtain ⟨x, xs, rfl, h1, h2⟩ := h
    have hp' : pureD d = true ∧ pureDs ds = true := by simpa [pureDs] using hp
    cases r with
    | cons r1 r2 =>
      refine .cons ?_ (reads_of I g hp'.2 h2 r2)
      have a := vw_dp g h1 (by rw [vw_pure hp'.1]; exact hp'.1)
      rw [vw_pure hp'.1] at a
      exact Dp.reads I _ _ _ a r1
abbrev dlt (a b : D) : Bool := tlt (PySem.W.keyToks (pyD a)) (PySem.W.keyToks (pyD b))
structure SrtD (l : List D) : Prop where
  pure : pureDs l = true
  one : ∀ d, d ∈ l → depD d ≤ 60 ∧ ∃ i r, d = .tup (.int i :: r)
  two : ∀ d, d ∈ l → ∀ d', d' ∈ l → cmpb (pyD d) (pyD d') = true
end Dl
namespace Dl
open PySem L2 PyProof.Rows
section
variable {X : Cx} {o : Expr} {td : TE} {p apos mpos pos : Pos}
end
end Dl
namespace Dl
open PySem L2
end Dl
namespace K23
open PySem L2 Dl
def r_law_is_small (sp_law_end : DSp) (sp_law_next : DSp) (sp_law_after : DSp) (sp_law_is_tick : DSp) (sp_law_tidy : DSp) : DTS :=
  (dSeq (dAsg (dLst (dCons (dTup (dCons (dC (.int 0)) (dCons (dCall sp_law_tidy (dCons (dVar 0) dNil)) dNil))) dNil)) (gNm 1))
  (dSeq (dAsg (dDisp [((dCB rRepr (dCons (dOp rIx (dVar 1) (dC (.int 0))) dNil)), (dC (.int 1)))]) (gNm 2))
  (dSeq (dWhile (dAnd (dTst (dOp rNev (dVar 1) (dFrz (dLst dNil)))) (dTst (dOp rLe (dCB rLen (dCons (dVar 2) dNil)) (dC (.int 200)))))
  (dSeq (dAsg (dMt mPop (dVar 1) dNil) (gTp 2 (gsCons (gNm 3) (gsCons (gNm 4) gsNil))))
  (dFor (iSq (dCall sp_law_next (dCons (dVar 4) dNil))) (gNm 5)
  (dSeq (dAsg (dTup (dCons (dOp rAdd (dVar 3) (dCall sp_law_is_tick (dCons (dVar 5) dNil))) (dCons (dCall sp_law_after (dCons (dVar 4) (dCons (dVar 5) dNil))) dNil))) (gNm 6))
  (dIfS (dTst (dOp (rDIn not) (dCB rRepr (dCons (dVar 6) dNil)) (dVar 2)))
  (dSeq (dAsg (dC (.int 1)) (gSb (dVar 2) (dCB rRepr (dCons (dVar 6) dNil)) sDct))
  (dDrop (dMt mAppend (dVar 1) (dCons (dVar 6) dNil))))
  dNext)))))
  (dRet (dAndV (dOp rLe (dCB rLen (dCons (dVar 2) dNil)) (dC (.int 200))) (dOp rLe (dCall sp_law_end (dCons (dVar 0) (dCons (dC (.bl false)) dNil))) (dC (.int 60))))))))
end K23
namespace K23
open PySem L2 Dl K17 K18 K24
local macro_rules | `(tactic| walk_at "ds") => `(tactic| repeat' with_reducible first
  | fail "stuck")
mutual
def beqW : Wk → Wk → Bool
  | .tick n, .tick m => decide (n = m)
  | .sme a b t, .sme a' b' t' => decide (a = a') && (decide (b = b') && (t == t'))
  | .lop a b t w, .lop a' b' t' w' => decide (a = a') && (decide (b = b') && ((t == t') && beqW w w'))
  | .eit ws, .eit vs => beqWs ws vs
  | .row ws, .row vs => beqWs ws vs
  | .bes a b, .bes a' b' => beqW a a' && beqW b b'
  | _, _ => false
def beqWs : List Wk → List Wk → Bool
  | [], [] => true
  | w :: ws, v :: vs => beqW w v && beqWs ws vs
  | _, _ => false
end
mutual
theorem beqW_eq : ∀ a b : Wk, beqW a b = true → a = b
  | .tick n, b, h => by cases b <;> simp [beqW] at h; subst h; rfl
  | .sme a b t, c, h => by cases c <;> simp [beqW] at h; obtain ⟨rfl, rfl, rfl⟩ := h; rfl
  | .lop a b t w, c, h => by
    cases c <;> simp [beqW] at h
    obtain ⟨rfl, rfl, rfl, e⟩ := h
    rw [beqW_eq w _ e]
  | .eit ws, c, h => by cases c <;> simp [beqW] at h; rw [beqWs_eq ws _ h]
  | .row ws, c, h => by cases c <;> simp [beqW] at h; rw [beqWs_eq ws _ h]
  | .bes a b, c, h => by cases c <;> simp [beqW] at h; rw [beqW_eq a _ h.1, beqW_eq b _ h.2]
theorem beqWs_eq : ∀ a b : List Wk, beqWs a b = true → a = b
  | [], b, h => by cases b <;> simp [beqWs] at h; rfl
  | w :: ws, b, h => by cases b <;> simp [beqWs] at h; rw [beqW_eq w _ h.1, beqWs_eq ws _ h.2]
end
mutual
theorem beqW_rfl : ∀ a : Wk, beqW a a = true
  | .tick n => by simp [beqW]
  | .sme a b t => by simp [beqW]
  | .lop a b t w => by simp [beqW, beqW_rfl w]
  | .eit ws => by simp [beqW, beqWs_rfl ws]
  | .row ws => by simp [beqW, beqWs_rfl ws]
  | .bes a b => by simp [beqW, beqW_rfl a, beqW_rfl b]
theorem beqWs_rfl : ∀ a : List Wk, beqWs a a = true
  | [] => by simp [beqWs]
  | w :: ws => by simp [beqWs, beqW_rfl w, beqWs_rfl ws]
end
instance : DecidableEq Wk := fun a b => if h : beqW a b = true then isTrue (beqW_eq a b h) else isFalse fun e => h (by rw [e]; exact beqW_rfl b)
abbrev Sta := Int × Wk
def stp (q : Sta) (s : Sg) : Sta := (q.1 + tk1 s, aft q.2 s)
inductive Rch (w : Wk) : Sta → Prop
  | beg : Rch w (0, tidyW w)
  | go {q : Sta} {s : Sg} : Rch w q → s ∈ nxW q.2 → Rch w (stp q s)
theorem Rch.bd {w : Wk} (hw : Bd w) {q : Sta} (h : Rch w q) : BdT q.2 := by
  induction h with
  | beg => exact hw.tidy
  | go _ hs ih => exact ih.aft hs
theorem Rch.path {w : Wk} {q : Sta} (h : Rch w q) : ∃ ss, Path (tidyW w) ss q.2 ∧ q.1 = cntS ss := by
  induction h with
  | beg => exact ⟨[], .nil _, rfl⟩
  | @go q s _ hs ih =>
    obtain ⟨ss, hp, e⟩ := ih
    refine ⟨ss ++ [s], hp.snoc hs, ?_⟩
    rw [cntS_app]
    show q.1 + tk1 s = _
    rw [e]
    have : cntS [s] = if tkS s = true then 1 else 0 := by unfold cntS; cases h : tkS s <;> simp [h]
    rw [this]
    unfold tk1
    split <;> simp
theorem Rch.num {w : Wk} (hw : Bd w) {q : Sta} (h : Rch w q) : 0 ≤ q.1 ∧ q.1 ≤ 1890 := by
  obtain ⟨ss, hp, e⟩ := h.path
  have h1 := cntS_le ss
  have h2 : ss.length ≤ 1890 := runs_le hw.tidy (q := (ss, q.2)) hp
  omega
structure Bf (w : Wk) (S W : List Sta) : Prop where
  nd : S.Nodup
  wn : W.Nodup
  sub : ∀ q ∈ W, q ∈ S
  rch : ∀ q ∈ S, Rch w q
  beg : (0, tidyW w) ∈ S
  cl : ∀ q ∈ S, q ∈ W ∨ ∀ s ∈ nxW q.2, stp q s ∈ S
structure Bi (w : Wk) (S W : List Sta) (q : Sta) (ss : List Sg) : Prop where
  nd : S.Nodup
  wn : W.Nodup
  sub : ∀ q ∈ W, q ∈ S
  rch : ∀ q ∈ S, Rch w q
  beg : (0, tidyW w) ∈ S
  mq : q ∈ S
  nq : q ∉ W
  sg : ∀ s ∈ ss, s ∈ nxW q.2
  own : ∀ s ∈ nxW q.2, s ∈ ss ∨ stp q s ∈ S
  cl : ∀ r ∈ S, r = q ∨ r ∈ W ∨ ∀ s ∈ nxW r.2, stp r s ∈ S
theorem Bf.start (w : Wk) : Bf w [(0, tidyW w)] [(0, tidyW w)] :=
  ⟨by simp, by simp, fun q h => h, fun q h => by rw [List.mem_singleton] at h; rw [h]; exact .beg, by simp, fun q h => .inl h⟩
theorem Bf.pop {w : Wk} {S W : List Sta} {q : Sta} (h : Bf w S (W ++ [q])) : Bi w S W q (nxW q.2) := by
  have hn := List.nodup_append.mp h.wn
  refine ⟨h.nd, hn.1, fun r hr => h.sub r (List.mem_append_left _ hr), h.rch, h.beg, h.sub q (by simp), fun hm => (hn.2.2 q hm q (by simp)) rfl, fun s hs => hs, fun s hs => .inl hs, fun r hr => ?_⟩
  rcases h.cl r hr with z | z
  · rcases List.mem_append.mp z with y | y
    · exact .inr (.inl y)
    · rw [List.mem_singleton] at y; exact .inl y
  · exact .inr (.inr z)
theorem Bi.old {w : Wk} {S W : List Sta} {q : Sta} {s : Sg} {ss : List Sg} (h : Bi w S W q (s :: ss)) (hs : stp q s ∈ S) : Bi w S W q ss :=
  ⟨h.nd, h.wn, h.sub, h.rch, h.beg, h.mq, h.nq, fun t ht => h.sg t (List.mem_cons_of_mem _ ht), fun t ht => by
    rcases h.own t ht with z | z
    · rcases List.mem_cons.mp z with y | y
      · rw [y]; exact .inr hs
      · exact .inl y
    · exact .inr z, h.cl⟩
theorem nodup_snoc {α : Type} {l : List α} {x : α} (h : l.Nodup) (hx : x ∉ l) : (l ++ [x]).Nodup :=
  List.nodup_append.mpr ⟨h, by simp, fun a ha b hb e => by rw [List.mem_singleton] at hb; rw [e, hb] at ha; exact hx ha⟩
theorem Bi.new {w : Wk} {S W : List Sta} {q : Sta} {s : Sg} {ss : List Sg} (h : Bi w S W q (s :: ss)) (hs : stp q s ∉ S) : Bi w (S ++ [stp q s]) (W ++ [stp q s]) q ss := by
  have hr : Rch w (stp q s) := .go (h.rch q h.mq) (h.sg s (List.mem_cons_self ..))
  refine ⟨nodup_snoc h.nd hs, nodup_snoc h.wn fun z => hs (h.sub _ z), fun r hr => ?_, fun r hm => ?_, List.mem_append_left _ h.beg, List.mem_append_left _ h.mq, fun z => ?_, fun t ht => h.sg t (List.mem_cons_of_mem _ ht), fun t ht => ?_, fun r hm => ?_⟩
  · rcases List.mem_append.mp hr with z | z
    · exact List.mem_append_left _ (h.sub r z)
    · exact List.mem_append_right _ z
  · rcases List.mem_append.mp hm with z | z
    · exact h.rch r z
    · rw [List.mem_singleton] at z; rw [z]; exact hr
  · rcases List.mem_append.mp z with y | y
    · exact h.nq y
    · rw [List.mem_singleton] at y; rw [← y] at hs; exact hs h.mq
  · rcases h.own t ht with z | z
    · rcases List.mem_cons.mp z with y | y
      · rw [y]; exact .inr (by simp)
      · exact .inl y
    · exact .inr (List.mem_append_left _ z)
  · rcases List.mem_append.mp hm with z | z
    · rcases h.cl r z with y | y | y
      · exact .inl y
      · exact .inr (.inl (List.mem_append_left _ y))
      · exact .inr (.inr fun t ht => List.mem_append_left _ (y t ht))
    · exact .inr (.inl (List.mem_append_right _ z))
theorem Bi.done {w : Wk} {S W : List Sta} {q : Sta} (h : Bi w S W q []) : Bf w S W := by
  refine ⟨h.nd, h.wn, h.sub, h.rch, h.beg, fun r hr => ?_⟩
  rcases h.cl r hr with z | z | z
  · refine .inr fun s hs => ?_
    rw [z] at hs ⊢
    rcases h.own s hs with y | y
    · cases y
    · exact y
  · exact .inl z
  · exact .inr z
structure AllS (w : Wk) (S : List Sta) : Prop where
  nd : S.Nodup
  mem : ∀ q, q ∈ S ↔ Rch w q
theorem Bf.all {w : Wk} {S : List Sta} (h : Bf w S []) : AllS w S := by
  refine ⟨h.nd, fun q => ⟨h.rch q, fun hq => ?_⟩⟩
  induction hq with
  | beg => exact h.beg
  | go _ hs ih =>
    rcases h.cl _ ih with z | z
    · cases z
    · exact z _ hs
theorem len_sub {α : Type} : ∀ {S T : List α}, S.Nodup → (∀ x ∈ S, x ∈ T) → S.length ≤ T.length
  | [], _, _, _ => Nat.zero_le _
  | x :: S, T, hn, h => by
    have hn' := List.nodup_cons.mp hn
    obtain ⟨A, B, rfl⟩ := List.append_of_mem (h x (List.mem_cons_self ..))
    have : S.length ≤ (A ++ B).length := len_sub hn'.2 fun y hy => by
      have := h y (List.mem_cons_of_mem _ hy)
      simp only [List.mem_append, List.mem_cons] at this ⊢
      rcases this with z | z | z
      · exact .inl z
      · rw [z] at hy; exact absurd hy hn'.1
      · exact .inr z
    simp only [List.length_append, List.length_cons] at this ⊢
    omega
def Few (n : Nat) (w : Wk) : Prop := ∀ S : List Sta, S.Nodup → (∀ q ∈ S, Rch w q) → S.length ≤ n
theorem AllS.few {w : Wk} {S : List Sta} (h : AllS w S) : Few S.length w := fun T nd hT => len_sub nd fun q hq => (h.mem q).mpr (hT q hq)
def addS (q : Sta) : List Sg → List Sta × List Sta → List Sta × List Sta
  | [], x => x
  | s :: ss, x => if stp q s ∈ x.1 then addS q ss x else addS q ss (x.1 ++ [stp q s], x.2 ++ [stp q s])
theorem addS_ok {w : Wk} {q : Sta} : ∀ {ss : List Sg} {S W : List Sta}, Bi w S W q ss → Bf w (addS q ss (S, W)).1 (addS q ss (S, W)).2
  | [], S, W, h => h.done
  | s :: ss, S, W, h => by
    unfold addS
    dsimp only
    split
    · rename_i e; exact addS_ok (h.old e)
    · rename_i e; exact addS_ok (h.new e)
def srch : Nat → List Sta → List Sta → List Sta × List Sta
  | 0, S, W => (S, W)
  | n + 1, S, W => match W.reverse with
    | [] => (S, [])
    | q :: R => srch n (addS q (nxW q.2) (S, R.reverse)).1 (addS q (nxW q.2) (S, R.reverse)).2
theorem srch_ok {w : Wk} : ∀ (n : Nat) {S W : List Sta}, Bf w S W → Bf w (srch n S W).1 (srch n S W).2
  | 0, S, W, h => h
  | n + 1, S, W, h => by
    unfold srch
    split
    · rename_i e
      have : W = [] := by simpa using e
      rw [this] at h
      exact h
    · rename_i q R e
      have e2 : W = R.reverse ++ [q] := by
        have := congrArg List.reverse e
        simpa using this
      rw [e2] at h
      exact srch_ok n (addS_ok h.pop)
def allB (n : Nat) (w : Wk) : List Sta := (srch n [(0, tidyW w)] [(0, tidyW w)]).1
theorem all_of {n : Nat} {w : Wk} (h : (srch n [(0, tidyW w)] [(0, tidyW w)]).2 = []) : AllS w (allB n w) := by
  have := srch_ok n (Bf.start w)
  rw [h] at this
  exact this.all
end K23
namespace K22
open PySem L2 Dl K17 K18 K24 K20 K28 K27 K23
local macro_rules | `(tactic| walk_at "ds") => `(tactic| repeat' with_reducible first
  | fail "stuck")
def sm {α : Type} (l : List α) (f : α → Nat) : Nat := (l.map f).sum
theorem sm_nil {α : Type} (f : α → Nat) : sm [] f = 0 := rfl
theorem sm_cons {α : Type} (x : α) (l : List α) (f : α → Nat) : sm (x :: l) f = f x + sm l f := by simp [sm]
theorem sm_app {α : Type} (a b : List α) (f : α → Nat) : sm (a ++ b) f = sm a f + sm b f := by simp [sm]
theorem sm_map {α β : Type} (l : List α) (g : α → β) (f : β → Nat) : sm (l.map g) f = sm l fun x => f (g x) := by simp [sm, Function.comp_def]
theorem sm_zero {α : Type} (l : List α) : sm l (fun _ => 0) = 0 := by
  induction l with
  | nil => rfl
  | cons x l ih => rw [sm_cons, ih]
theorem sm_add {α : Type} (l : List α) (f g : α → Nat) : sm l (fun x => f x + g x) = sm l f + sm l g := by
  induction l with
  | nil => rfl
  | cons x l ih => rw [sm_cons, sm_cons, sm_cons, ih]; omega
theorem sm_mono {α : Type} {l : List α} {f g : α → Nat} (h : ∀ x ∈ l, f x ≤ g x) : sm l f ≤ sm l g := by
  induction l with
  | nil => exact Nat.le_refl _
  | cons x l ih =>
    rw [sm_cons, sm_cons]
    exact Nat.add_le_add (h x (List.mem_cons_self ..)) (ih fun y hy => h y (List.mem_cons_of_mem _ hy))
theorem sm_congr {α : Type} {l : List α} {f g : α → Nat} (h : ∀ x ∈ l, f x = g x) : sm l f = sm l g := by
  unfold sm; rw [List.map_congr_left h]
theorem sm_mem {α : Type} {l : List α} {f : α → Nat} {x : α} (h : x ∈ l) : f x ≤ sm l f := by
  induction l with
  | nil => cases h
  | cons y l ih =>
    rw [sm_cons]
    rcases List.mem_cons.mp h with e | e
    · subst e; omega
    · have := ih e; omega
def rgN (a b : Int) : List Nat := (List.range (b + 1 - a).toNat).map fun i => a.toNat + i
theorem rg_mem {a b : Int} (h : 0 ≤ a) {k : Nat} (hk : k ∈ rgN a b) : a.toNat ≤ k ∧ k ≤ b.toNat := by
  obtain ⟨i, hi, rfl⟩ := List.mem_map.mp hk
  rw [List.mem_range] at hi
  omega
theorem rg_of {a b : Int} {k : Nat} (h1 : a ≤ k) (h0 : 0 ≤ a) (h2 : (k : Int) ≤ b) : k ∈ rgN a b := by
  refine List.mem_map.mpr ⟨k - a.toNat, List.mem_range.mpr (by omega), by omega⟩
theorem rg_len (a b : Int) : (rgN a b).length = (b + 1 - a).toNat := by simp [rgN]
theorem rg_cons {a b : Int} (h0 : 0 ≤ a) (h : a ≤ b) : rgN a b = a.toNat :: rgN (a + 1) b := by
  unfold rgN
  rw [show (b + 1 - a).toNat = (b + 1 - (a + 1)).toNat + 1 from by omega, List.range_succ_eq_map, List.map_cons, List.map_map]
  rw [List.cons_eq_cons]
  refine ⟨by omega, List.map_congr_left fun i _ => ?_⟩
  simp only [Function.comp]
  omega
theorem rg_shift {a b : Int} (h0 : 0 ≤ a) : rgN (a + 1) (b + 1) = (rgN a b).map (· + 1) := by
  unfold rgN
  rw [show (b + 1 + 1 - (a + 1)).toNat = (b + 1 - a).toNat from by omega, List.map_map]
  refine List.map_congr_left fun i _ => ?_
  simp only [Function.comp]
  omega
theorem rg_none {a b : Int} (h : b < a) : rgN a b = [] := by
  unfold rgN; rw [show (b + 1 - a).toNat = 0 from by omega]; rfl
def ch : Nat → Nat → Nat
  | _, 0 => 1
  | 0, _ + 1 => 0
  | n + 1, k + 1 => ch n k + ch n (k + 1)
theorem ch_0 (n : Nat) : ch n 0 = 1 := by cases n <;> rfl
theorem ch_s (n k : Nat) : ch (n + 1) (k + 1) = ch n k + ch n (k + 1) := rfl
theorem ch_big : ∀ (n k : Nat), n < k → ch n k = 0
  | 0, k + 1, _ => rfl
  | n + 1, k + 1, h => by rw [ch_s, ch_big n k (by omega), ch_big n (k + 1) (by omega)]
theorem ch_all : ∀ n : Nat, ch n n = 1
  | 0 => rfl
  | n + 1 => by rw [ch_s, ch_all n, ch_big n (n + 1) (by omega)]
theorem ch_pos : ∀ (n k : Nat), k ≤ n → 1 ≤ ch n k
  | n, 0, _ => by rw [ch_0]; exact Nat.le_refl _
  | n + 1, k + 1, h => by rw [ch_s]; have := ch_pos n k (by omega); omega
theorem ch_two : ∀ (n k : Nat), ch n k ≤ 2 ^ n
  | n, 0 => by rw [ch_0]; exact Nat.one_le_two_pow
  | 0, k + 1 => by rw [show ch 0 (k + 1) = 0 from rfl]; exact Nat.zero_le _
  | n + 1, k + 1 => by rw [ch_s, Nat.pow_succ]; have := ch_two n k; have := ch_two n (k + 1); omega
theorem ch_a : ∀ (n k : Nat), (k + 1) * ch (n + 1) (k + 1) = (n + 1) * ch n k
  | 0, 0 => rfl
  | 0, k + 1 => by
    rw [ch_s, show ch 0 (k + 1) = 0 from rfl, show ch 0 (k + 1 + 1) = 0 from rfl]; simp
  | n + 1, 0 => by
    have := ch_a n 0
    rw [ch_s, ch_0, Nat.mul_add, this, ch_0]; omega
  | n + 1, k + 1 => by
    have h1 := ch_a n k
    have h2 := ch_a n (k + 1)
    rw [ch_s (n + 1) (k + 1), Nat.mul_add, h2, show (k + 1 + 1) * ch (n + 1) (k + 1) = (k + 1) * ch (n + 1) (k + 1) + ch (n + 1) (k + 1) from by rw [Nat.add_mul, Nat.one_mul], h1]
    rw [show (n + 1 + 1) * ch (n + 1) (k + 1) = (n + 1) * ch (n + 1) (k + 1) + ch (n + 1) (k + 1) from by rw [Nat.add_mul, Nat.one_mul]]
    rw [show (n + 1) * ch (n + 1) (k + 1) = (n + 1) * ch n k + (n + 1) * ch n (k + 1) from by rw [ch_s, Nat.mul_add]]
    omega
theorem ch_b (n k : Nat) (h : k ≤ n) : ch n k * (n - k) = ch n (k + 1) * (k + 1) := by
  have h1 := ch_a n k
  rw [ch_s, Nat.mul_add] at h1
  obtain ⟨d, rfl⟩ : ∃ d, n = k + d := ⟨n - k, by omega⟩
  rw [show k + d - k = d from by omega]
  have e : (k + d + 1) * ch (k + d) k = (k + 1) * ch (k + d) k + d * ch (k + d) k := by rw [← Nat.add_mul]; congr 1; omega
  rw [e] at h1
  rw [Nat.mul_comm _ d, Nat.mul_comm _ (k + 1)]
  omega
def evP (body : (Nat → Nat) → Nat) : Nat → (Nat → Nat) → Nat
  | 0, f => f 0
  | k + 1, f => body fun i => evP body k fun j => f (i + j)
mutual
def ev : Wk → (Nat → Nat) → Nat
  | .tick n, f => f n.toNat
  | .sme a b _, f => sm (rgN a b) fun k => f (k + 1)
  | .lop a b t w, f => sm (rgN a b) fun k => evP (fun g => if t = true then ev w g else ev w fun i => g (i + 1)) k fun i => f (i + 1)
  | .eit ws, f => evE ws fun i => f (i + 1)
  | .row ws, f => evR ws f
  | .bes a b, f => ev a fun i => ev b fun j => ch (i + j) i * f (i + j)
def evE : List Wk → (Nat → Nat) → Nat
  | [], _ => 0
  | w :: ws, f => ev w f + evE ws f
def evR : List Wk → (Nat → Nat) → Nat
  | [], f => f 0
  | w :: ws, f => ev w fun i => evR ws fun j => f (i + j)
end
structure Lin (F : (Nat → Nat) → Nat) : Prop where
  add : ∀ f g, F (fun k => f k + g k) = F f + F g
  zero : F (fun _ => 0) = 0
theorem Lin.sm {α : Type} {F : (Nat → Nat) → Nat} (h : Lin F) (l : List α) (g : α → Nat → Nat) : F (fun k => K22.sm l fun s => g s k) = K22.sm l fun s => F (g s) := by
  induction l with
  | nil => exact h.zero
  | cons x l ih =>
    rw [sm_cons, ← ih, ← h.add]
    congr 1 <;> (funext k; rw [sm_cons])
theorem Lin.mul {F : (Nat → Nat) → Nat} (h : Lin F) (c : Nat) (g : Nat → Nat) : F (fun k => c * g k) = c * F g := by
  induction c with
  | zero => simp only [Nat.zero_mul]; exact h.zero
  | succ c ih =>
    rw [Nat.succ_mul, ← ih, ← h.add]
    congr 1
    funext k
    rw [Nat.succ_mul]
theorem Lin.pt (c n : Nat) : Lin fun f => c * f n := ⟨fun f g => Nat.mul_add _ _ _, Nat.mul_zero _⟩
theorem Lin.pt1 (n : Nat) : Lin fun f => f n := ⟨fun f g => rfl, rfl⟩
theorem Lin.bind {F : (Nat → Nat) → Nat} {G : Nat → (Nat → Nat) → Nat} (h : Lin F) (k : ∀ i, Lin (G i)) : Lin fun f => F fun i => G i f := by
  refine ⟨fun f g => ?_, ?_⟩
  · rw [← h.add]; congr 1; funext i; exact (k i).add f g
  · rw [show (fun i => G i fun _ => 0) = fun _ => 0 from funext fun i => (k i).zero]; exact h.zero
theorem Lin.re {F : (Nat → Nat) → Nat} (h : Lin F) (r : Nat → Nat) : Lin fun f => F fun i => f (r i) := ⟨fun f g => h.add _ _, h.zero⟩
theorem Lin.sum {α : Type} {G : α → (Nat → Nat) → Nat} (l : List α) (k : ∀ x, Lin (G x)) : Lin fun f => K22.sm l fun x => G x f := by
  refine ⟨fun f g => ?_, ?_⟩
  · rw [← sm_add]; exact sm_congr fun x _ => (k x).add f g
  · rw [show (fun x => G x fun _ => 0) = fun _ => 0 from funext fun x => (k x).zero]; exact sm_zero l
theorem Lin.plus {F G : (Nat → Nat) → Nat} (h : Lin F) (k : Lin G) : Lin fun f => F f + G f := ⟨fun f g => by rw [h.add, k.add]; omega, by rw [h.zero, k.zero]⟩
theorem Lin.ite {F G : (Nat → Nat) → Nat} {c : Prop} [Decidable c] (h : Lin F) (k : Lin G) : Lin fun f => if c then F f else G f := by
  by_cases e : c
  · simp only [if_pos e]; exact h
  · simp only [if_neg e]; exact k
theorem evP_lin {body : (Nat → Nat) → Nat} (h : Lin body) : ∀ k, Lin (evP body k)
  | 0 => Lin.pt1 0
  | k + 1 => by
    rw [show evP body (k + 1) = fun f => body fun i => evP body k fun j => f (i + j) from funext fun f => by rw [evP]]
    exact Lin.bind (G := fun i f => evP body k fun j => f (i + j)) h fun i => (evP_lin h k).re (i + ·)
mutual
theorem ev_lin : ∀ w : Wk, Lin (ev w)
  | .tick n => by
    rw [show ev (.tick n) = fun f => f n.toNat from funext fun f => by rw [ev]]; exact Lin.pt1 _
  | .sme a b t => by
    rw [show ev (.sme a b t) = fun f => sm (rgN a b) fun k => f (k + 1) from funext fun f => by rw [ev]]
    exact Lin.sum (G := fun k f => f (k + 1)) _ fun k => Lin.pt1 _
  | .lop a b t w => by
    have h := ev_lin w
    rw [show ev (.lop a b t w) = fun f => sm (rgN a b) fun k => evP (fun g => if t = true then ev w g else ev w fun i => g (i + 1)) k fun i => f (i + 1) from funext fun f => by rw [ev]]
    refine Lin.sum (G := fun k f => evP (fun g => if t = true then ev w g else ev w fun i => g (i + 1)) k fun i => f (i + 1)) _ fun k => ?_
    exact (evP_lin (Lin.ite h (h.re (· + 1))) k).re (· + 1)
  | .eit ws => by
    rw [show ev (.eit ws) = fun f => evE ws fun i => f (i + 1) from funext fun f => by rw [ev]]
    exact (evE_lin ws).re (· + 1)
  | .row ws => by
    rw [show ev (.row ws) = evR ws from funext fun f => by rw [ev]]
    exact evR_lin ws
  | .bes a b => by
    rw [show ev (.bes a b) = fun f => ev a fun i => ev b fun j => ch (i + j) i * f (i + j) from funext fun f => by rw [ev]]
    exact Lin.bind (ev_lin a) fun i => Lin.bind (ev_lin b) fun j => Lin.pt _ _
theorem evE_lin : ∀ ws : List Wk, Lin (evE ws)
  | [] => by rw [show evE [] = fun _ => 0 from funext fun f => by rw [evE]]; exact ⟨fun _ _ => rfl, rfl⟩
  | w :: ws => by
    rw [show evE (w :: ws) = fun f => ev w f + evE ws f from funext fun f => by rw [evE]]
    exact (ev_lin w).plus (evE_lin ws)
theorem evR_lin : ∀ ws : List Wk, Lin (evR ws)
  | [] => by rw [show evR [] = fun f => f 0 from funext fun f => by rw [evR]]; exact Lin.pt1 0
  | w :: ws => by
    rw [show evR (w :: ws) = fun f => ev w fun i => evR ws fun j => f (i + j) from funext fun f => by rw [evR]]
    exact Lin.bind (ev_lin w) fun i => (evR_lin ws).re (i + ·)
end
theorem evR_app : ∀ (a b : List Wk) (f : Nat → Nat), evR (a ++ b) f = evR a fun i => evR b fun j => f (i + j)
  | [], b, f => by rw [List.nil_append, evR]; simp only [Nat.zero_add]
  | w :: a, b, f => by
    rw [List.cons_append, evR, evR]
    congr 1; funext i
    rw [evR_app a b]
    simp only [Nat.add_assoc]
theorem evR_one (w : Wk) (f : Nat → Nat) : evR [w] f = ev w f := by rw [evR]; simp only [evR, Nat.add_zero]
theorem evR_inRow (w : Wk) (f : Nat → Nat) : evR (inRow w) f = ev w f := by
  cases w <;> simp only [inRow, evR_one]
  rw [ev]
theorem ev_mkRow (l : List Wk) (f : Nat → Nat) : ev (mkRow l) f = evR l f := by
  rcases mkRow_cases l with ⟨w, e, h⟩ | h
  · rw [h, e, evR_one]
  · rw [h, ev]
theorem ev_over (f : Nat → Nat) : ev (.row []) f = f 0 := by rw [ev, evR]
mutual
theorem ev_tidy : ∀ (w : Wk) (f : Nat → Nat), ev (tidyW w) f = ev w f
  | .tick _, f => by rw [tidyW] <;> simp
  | .sme _ _ _, f => by rw [tidyW] <;> simp
  | .lop _ _ _ _, f => by rw [tidyW] <;> simp
  | .eit _, f => by rw [tidyW] <;> simp
  | .row ws, f => by rw [tidyW, ev_mkRow, ev, ev_flat ws f]
  | .bes a b, f => by
    have h1 := ev_tidy a
    have h2 := ev_tidy b
    rw [tidyW, ev]
    split
    · rename_i h
      rw [Bool.and_eq_true] at h
      rw [over_of h.1] at h1
      rw [over_of h.2] at h2
      rw [ev_over, ← h1, ev_over, ← h2, ev_over]
      simp [ch_0]
    · rw [ev, h1]
      congr 1; funext i
      rw [h2]
theorem ev_flat : ∀ (ws : List Wk) (f : Nat → Nat), evR (flatW ws) f = evR ws f
  | [], f => by rw [flatW]
  | w :: ws, f => by
    rw [flatW, evR_app, evR_inRow, ev_tidy w, evR]
    congr 1; funext i
    rw [ev_flat ws]
end
theorem ev_aft (w : Wk) (s : Sg) (f : Nat → Nat) : ev (aft w s) f = ev (behW w s) f := ev_tidy _ f
theorem ev_tk {n : Int} (h : 0 ≤ n) (f : Nat → Nat) : ev (tkW n) f = f n.toNat := by
  unfold tkW
  split
  · rw [ev]
  · rw [ev_over]; congr 1; omega
theorem ev_rep (w : Wk) : ∀ (k : Nat) (f : Nat → Nat), evR (List.replicate k w) f = evP (ev w) k f
  | 0, f => by rw [List.replicate_zero, evR, evP]
  | k + 1, f => by
    rw [List.replicate_succ, evR, evP]
    congr 1; funext i
    exact ev_rep w k _
theorem tidy_row {w : Wk} {ws : List Wk} (h : tidyW (.row (w :: ws)) = .row (w :: ws)) : tidyW w = w ∧ isOver w = false := by
  have := (tidy_idem (.row (w :: ws))).2
  rw [h] at this
  obtain ⟨h1, h2⟩ := this w (by simp [inRow])
  refine ⟨h1, ?_⟩
  cases e : isOver w with
  | false => rfl
  | true => rw [over_of e] at h2; simp [inRow] at h2
theorem tidy_bes {a b : Wk} (h : tidyW (.bes a b) = .bes a b) : tidyW a = a ∧ tidyW b = b ∧ (isOver a && isOver b) = false := by
  rw [tidyW] at h
  split at h
  · cases h
  · rename_i c
    injection h with h1 h2
    rw [h1, h2] at c
    exact ⟨h1, h2, by simpa using c⟩
theorem nx_over {w : Wk} (h : isOver w = true) : nxW w = [] := by rw [over_of h]; simp [nxW, nxWs]
theorem sm_many (a b : Int) (h : 0 ≤ a) (f : Sg → Nat) : sm (manyS a b) f = sm (rgN a b) fun k => f (.many k) := by
  unfold manyS rgN
  rw [sm_map, sm_map]
  refine sm_congr fun i _ => ?_
  rw [show a + (i : Int) = ((a.toNat + i : Nat) : Int) from by omega]
theorem evE_sum (f : Nat → Nat) : ∀ (ws : List Wk), evE ws f = sm (List.range ws.length) fun i => ev (ws.getD i (.row [])) f
  | [] => by rw [evE]; rfl
  | w :: ws => by
    rw [evE, evE_sum f ws, List.length_cons, List.range_succ_eq_map, sm_cons, sm_map]
    rfl
def Stp (w : Wk) : Prop := ∀ f, ev w f = sm (nxW w) fun s => ev (behW w s) fun k => f (k + 1)
theorem stp_bes {a b : Wk} (ha : isOver a = true ∨ Stp a) (hb : isOver b = true ∨ Stp b) (h : (isOver a && isOver b) = false) : Stp (.bes a b) := by
  intro f
  rw [nxW, sm_app, sm_map, sm_map, ev]
  have L : ∀ s, ev (behW (.bes a b) (.left s)) (fun k => f (k + 1)) = ev (behW a s) fun i => ev b fun j => ch (i + j) i * f (i + j + 1) := fun s => by
    rw [show behW (.bes a b) (.left s) = .bes (behW a s) b from by simp [behW], ev]
  have R : ∀ s, ev (behW (.bes a b) (.right s)) (fun k => f (k + 1)) = ev a fun i => ev (behW b s) fun j => ch (i + j) i * f (i + j + 1) := fun s => by
    rw [show behW (.bes a b) (.right s) = .bes a (behW b s) from by simp [behW], ev]
  rw [show (fun s => ev (behW (.bes a b) (.left s)) fun k => f (k + 1)) = fun s => ev (behW a s) fun i => ev b fun j => ch (i + j) i * f (i + j + 1) from funext L,
    show (fun s => ev (behW (.bes a b) (.right s)) fun k => f (k + 1)) = fun s => ev a fun i => ev (behW b s) fun j => ch (i + j) i * f (i + j + 1) from funext R]
  rcases ha with ha | ha
  · have hb : Stp b := by
      rcases hb with hb | hb
      · rw [ha, hb] at h; cases h
      · exact hb
    rw [nx_over ha, sm_nil, Nat.zero_add, over_of ha]
    simp only [ev_over, Nat.zero_add, ch_0, Nat.one_mul]
    exact hb f
  have e1 : (ev a fun i => ev b fun j => ch (i + j) i * f (i + j)) = sm (nxW a) fun s => ev (behW a s) fun i => ev b fun j => ch (i + 1 + j) (i + 1) * f (i + 1 + j) := ha _
  have e2 : (fun s => ev (behW a s) fun i => ev b fun j => ch (i + 1 + j) (i + 1) * f (i + 1 + j)) = fun s => (ev (behW a s) fun i => ev b fun j => ch (i + j) i * f (i + j + 1)) + ev (behW a s) fun i => ev b fun j => ch (i + j) (i + 1) * f (i + j + 1) := by
    funext s
    rw [← (ev_lin _).add]
    congr 1; funext i
    rw [← (ev_lin _).add]
    congr 1; funext j
    rw [show i + 1 + j = i + j + 1 from by omega, ch_s, Nat.add_mul]
  rw [e1, e2, sm_add]
  congr 1
  rcases hb with hb | hb
  · rw [nx_over hb, sm_nil, over_of hb]
    simp only [ev_over, Nat.add_zero]
    rw [show (fun s => ev (behW a s) fun i => ch i (i + 1) * f (i + 1)) = fun _ => 0 from funext fun s => by
      rw [show (fun i => ch i (i + 1) * f (i + 1)) = fun _ => 0 from funext fun i => by rw [ch_big i (i + 1) (by omega), Nat.zero_mul]]
      exact (ev_lin _).zero]
    exact sm_zero _
  · have e3 : (fun s => ev (behW a s) fun i => ev b fun j => ch (i + j) (i + 1) * f (i + j + 1)) = fun s => ev (behW a s) fun i => sm (nxW b) fun t => ev (behW b t) fun j => ch (i + 1 + j) (i + 1) * f (i + 1 + j + 1) := by
      funext s
      congr 1; funext i
      rw [hb]
      refine sm_congr fun t _ => ?_
      congr 1; funext j
      rw [show i + (j + 1) = i + 1 + j from by omega]
    rw [e3, ← ha fun i => sm (nxW b) fun t => ev (behW b t) fun j => ch (i + j) i * f (i + j + 1)]
    exact (ev_lin a).sm _ _
theorem stp_row {w : Wk} {ws : List Wk} (h : Stp w) : Stp (.row (w :: ws)) := by
  intro f
  rw [nxW, nxWs, ev, evR, h]
  refine sm_congr fun s _ => ?_
  rw [show behW (.row (w :: ws)) s = .row (behW w s :: ws) from by simp [behW, behWs], ev, evR]
  congr 1; funext i
  congr 1; funext j
  rw [show i + 1 + j = i + j + 1 from by omega]
theorem stp_sme {a b : Int} (h0 : 0 ≤ a) (h1 : a ≤ b) : Stp (.sme a b false) := by
  intro f
  rw [nxW, if_neg (by decide), sm_app, ev]
  by_cases hb : 0 < b
  · have e0 : ev (behW (.sme a b false) .tick) (fun k => f (k + 1)) = sm (rgN (dec0 a) (b - 1)) fun k => f (k + 1 + 1) := by
      rw [show behW (.sme a b false) .tick = .sme (dec0 a) (b - 1) false from by simp [behW], ev]
    rw [if_pos hb, sm_cons, sm_nil, e0]
    by_cases ha : a = 0
    · subst ha
      rw [if_pos rfl, sm_cons, sm_nil, show behW (.sme 0 b false) .fin = .row [] from by simp [behW], ev_over, rg_cons (by omega) (by omega), sm_cons]
      have : rgN (0 + 1) b = (rgN 0 (b - 1)).map (· + 1) := by
        have := rg_shift (a := 0) (b := b - 1) (by omega)
        rwa [show b - 1 + 1 = b from by omega] at this
      rw [this, sm_map, show dec0 0 = 0 from rfl]
      show f (0 + 1) + _ = _ + 0 + (f (0 + 1) + 0)
      omega
    · rw [if_neg ha, sm_nil]
      have : rgN a b = (rgN (dec0 a) (b - 1)).map (· + 1) := by
        have := rg_shift (a := a - 1) (b := b - 1) (by omega)
        rw [show b - 1 + 1 = b from by omega, show a - 1 + 1 = a from by omega] at this
        rw [this]
        congr 2
        unfold dec0; split <;> omega
      rw [this, sm_map]; rfl
  · have ha : a = 0 := by omega
    have hb0 : b = 0 := by omega
    subst ha; subst hb0
    rw [if_neg (by omega), if_pos rfl, sm_nil, sm_cons, sm_nil, show behW (.sme 0 0 false) .fin = .row [] from by simp [behW], ev_over, rg_cons (by omega) (by omega), rg_none (by omega), sm_cons, sm_nil]
    show f (0 + 1) + 0 = 0 + (f (0 + 1) + 0)
    omega
theorem stp_lop {a b : Int} {w : Wk} (h0 : 0 ≤ a) (h1 : a ≤ b) : Stp (.lop a b false w) := by
  intro f
  rw [nxW, if_neg (by decide), sm_app, ev]
  have eb : (fun g : Nat → Nat => if false = true then ev w g else ev w fun i => g (i + 1)) = fun g => ev w fun i => g (i + 1) := by funext g; rw [if_neg (by decide)]
  rw [eb]
  obtain ⟨B, hB⟩ : ∃ B : (Nat → Nat) → Nat, B = fun g => ev w fun i => g (i + 1) := ⟨_, rfl⟩
  have hl : Lin B := by rw [hB]; exact (ev_lin w).re (· + 1)
  rw [← hB]
  have e0 : ev (behW (.lop a b false w) .more) (fun k => f (k + 1)) = sm (rgN (dec0 a) (b - 1)) fun k => evP B (k + 1) fun i => f (i + 1) := by
    rw [show behW (.lop a b false w) .more = .row [w, .lop (dec0 a) (b - 1) false w] from by simp [behW], ev, evR]
    have e1 : (fun i => evR [.lop (dec0 a) (b - 1) false w] fun j => f (i + j + 1)) = fun i => sm (rgN (dec0 a) (b - 1)) fun k => evP B k fun j => f (i + (j + 1) + 1) := by
      funext i
      rw [evR_one, ev, eb, ← hB]
    rw [e1, (ev_lin w).sm]
    refine sm_congr fun k _ => ?_
    rw [evP, hB]
    congr 1; funext i
    rw [← hB]
    congr 1; funext j
    rw [show i + (j + 1) + 1 = i + 1 + j + 1 from by omega]
  by_cases hb : 0 < b
  · rw [if_pos hb, sm_cons, sm_nil, e0]
    by_cases ha : a = 0
    · subst ha
      rw [if_pos rfl, sm_cons, sm_nil, show behW (.lop 0 b false w) .fin = .row [] from by simp [behW], ev_over, rg_cons (by omega) (by omega), sm_cons]
      have : rgN (0 + 1) b = (rgN 0 (b - 1)).map (· + 1) := by
        have := rg_shift (a := 0) (b := b - 1) (by omega)
        rwa [show b - 1 + 1 = b from by omega] at this
      rw [this, sm_map, show dec0 0 = 0 from rfl]
      show evP B 0 _ + _ = _ + 0 + (f (0 + 1) + 0)
      rw [evP]
      omega
    · rw [if_neg ha, sm_nil]
      have : rgN a b = (rgN (dec0 a) (b - 1)).map (· + 1) := by
        have := rg_shift (a := a - 1) (b := b - 1) (by omega)
        rw [show b - 1 + 1 = b from by omega, show a - 1 + 1 = a from by omega] at this
        rw [this]
        congr 2
        unfold dec0; split <;> omega
      rw [this, sm_map]; rfl
  · have ha : a = 0 := by omega
    have hb0 : b = 0 := by omega
    subst ha; subst hb0
    rw [if_neg (by omega), if_pos rfl, sm_nil, sm_cons, sm_nil, show behW (.lop 0 0 false w) .fin = .row [] from by simp [behW], ev_over, rg_cons (by omega) (by omega), rg_none (by omega), sm_cons, sm_nil]
    show evP B 0 _ + 0 = 0 + (f (0 + 1) + 0)
    rw [evP]
    omega
theorem ev_step {B : Int} : ∀ w : Wk, okW B w → tidyW w = w → isOver w = false → Stp w
  | .tick n, h, _, _ => by
    rw [okW] at h
    intro f
    rw [nxW, sm_cons, sm_nil, show behW (.tick n) .tick = tkW (n - 1) from by simp [behW], ev_tk (by omega), ev]
    rw [Nat.add_zero]; congr 1; omega
  | .sme a b true, h, _, _ => by
    rw [okW] at h
    intro f
    rw [nxW, if_pos rfl, sm_many _ _ h.1, ev]
    refine sm_congr fun k _ => ?_
    rw [show behW (.sme a b true) (.many k) = tkW k from by simp [behW], ev_tk (by omega)]
    rfl
  | .sme a b false, h, _, _ => by rw [okW] at h; exact stp_sme h.1 h.2.1
  | .lop a b true w, h, _, _ => by
    rw [okW] at h
    intro f
    rw [nxW, if_pos rfl, sm_many _ _ h.1, ev]
    refine sm_congr fun k _ => ?_
    rw [show behW (.lop a b true w) (.many k) = .row (List.replicate k w) from by simp [behW], ev, ev_rep]
    simp only [if_true]
  | .lop a b false w, h, _, _ => by rw [okW] at h; exact stp_lop h.1 h.2.1
  | .eit ws, h, _, _ => by
    intro f
    rw [nxW, sm_map, ev, evE_sum]
    refine sm_congr fun i _ => ?_
    rw [show behW (.eit ws) (.way i) = ws.getD i (.row []) from by simp [behW]]
  | .row [], _, _, h => by simp [isOver] at h
  | .row (w :: ws), h, t, _ => by
    rw [okW, okWs] at h
    have k := tidy_row t
    exact stp_row (ev_step w h.1 k.1 k.2)
  | .bes a b, h, t, _ => by
    rw [okW] at h
    obtain ⟨ta, tb, c⟩ := tidy_bes t
    refine stp_bes ?_ ?_ c
    · cases e : isOver a with
      | true => exact .inl rfl
      | false => exact .inr (ev_step a h.1 ta e)
    · cases e : isOver b with
      | true => exact .inl rfl
      | false => exact .inr (ev_step b h.2 tb e)
end K22
namespace K22
open PySem L2 Dl K17 K18 K24 K20 K28 K27 K23
local macro_rules | `(tactic| walk_at "ds") => `(tactic| repeat' with_reducible first
  | fail "stuck")
def Mn (F : (Nat → Nat) → Nat) (lo hi : Nat) : Prop := ∀ f g : Nat → Nat, (∀ k, lo ≤ k → k ≤ hi → f k ≤ g k) → F f ≤ F g
theorem evP_mn {body : (Nat → Nat) → Nat} {lo hi : Nat} (h : Mn body lo hi) : ∀ k, Mn (evP body k) (k * lo) (k * hi)
  | 0 => by
    intro f g hfg
    rw [evP, evP]
    exact hfg 0 (by omega) (by omega)
  | k + 1 => by
    intro f g hfg
    rw [evP, evP]
    refine h _ _ fun i h1 h2 => evP_mn h k _ _ fun j h3 h4 => hfg _ ?_ ?_
    · rw [Nat.succ_mul]; omega
    · rw [Nat.succ_mul]; omega
theorem shE_len {ws : List Wk} {i : Nat} {w : Wk} (h : ws[i]? = some w) : (pickS (shE ws 0)).length ≤ 1 + (shW w).length := by
  have hi := (List.getElem?_eq_some_iff.mp h).1
  have hm : (Sg.way i :: shW w) ∈ shE ws 0 := by
    rw [shE_map]
    refine List.mem_map.mpr ⟨i, List.mem_range.mpr hi, ?_⟩
    rw [Nat.zero_add, show ws.getD i (.row []) = w from by simp [List.getD, h]]
  have hne : shE ws 0 ≠ [] := List.ne_nil_of_mem hm
  obtain ⟨xs, e⟩ := pickS_of hne
  have h1 : pickS (shE ws 0) ∈ (shE ws 0).filter fun r => decide ((r.length : Int) = lenMin (shE ws 0)) := by rw [e]; exact List.mem_cons_self ..
  have h2 := (List.mem_filter.mp h1).2
  rw [decide_eq_true_eq] at h2
  have h3 : lenMin (shE ws 0) ≤ ((Sg.way i :: shW w).length : Int) := minL_le (List.mem_map.mpr ⟨_, hm, rfl⟩)
  rw [List.length_cons] at h3
  omega
mutual
theorem ev_mn {B : Int} : ∀ w : Wk, okW B w → Mn (ev w) (shW w).length (mW w)
  | .tick n, _ => by
    intro f g h
    rw [ev, ev]
    exact h _ (by rw [shW]; simp) (by rw [mW]; exact Nat.le_refl _)
  | .sme a b t, ho => by
    rw [okW] at ho
    intro f g h
    rw [ev, ev]
    refine sm_mono fun k hk => ?_
    have := rg_mem ho.1 hk
    refine h _ ?_ (by rw [mW]; omega)
    rw [shW]
    split <;> simp <;> omega
  | .lop a b t w, ho => by
    rw [okW] at ho
    have ih := ev_mn w ho.2.2.2
    intro f g h
    rw [ev, ev]
    refine sm_mono fun k hk => ?_
    have hk2 := rg_mem ho.1 hk
    cases t with
    | true =>
      simp only [if_true]
      refine evP_mn ih k _ _ fun i h1 h2 => h _ ?_ ?_
      · rw [shW, if_pos rfl, List.length_cons, len_rep]
        have : a.toNat * (shW w).length ≤ k * (shW w).length := Nat.mul_le_mul_right _ hk2.1
        omega
      · rw [mW]
        have : k * mW w ≤ b.toNat * (mW w + 1) := Nat.mul_le_mul hk2.2 (by omega)
        omega
    | false =>
      have ih2 : Mn (fun g => if false = true then ev w g else ev w fun i => g (i + 1)) ((shW w).length + 1) (mW w + 1) := by
        intro f g h
        show ev w _ ≤ ev w _
        exact ih _ _ fun i h1 h2 => h _ (by omega) (by omega)
      refine evP_mn ih2 k _ _ fun i h1 h2 => h _ ?_ ?_
      · rw [shW, if_neg (by decide), List.length_append, len_rep, List.length_cons, List.length_singleton]
        have : a.toNat * ((shW w).length + 1) ≤ k * ((shW w).length + 1) := Nat.mul_le_mul_right _ hk2.1
        omega
      · rw [mW]
        have : k * (mW w + 1) ≤ b.toNat * (mW w + 1) := Nat.mul_le_mul_right _ hk2.2
        omega
  | .eit ws, ho => by
    rw [okW] at ho
    intro f g h
    rw [ev, ev, evE_sum, evE_sum]
    refine sm_mono fun i hi => ?_
    rw [List.mem_range] at hi
    have hw : ws[i]? = some ws[i] := List.getElem?_eq_getElem hi
    have m := List.getElem_mem hi
    rw [show ws.getD i (.row []) = ws[i] from by simp [List.getD, hi]]
    refine (ev_mns ws ho.2).1 _ m _ _ fun k h1 h2 => h _ ?_ ?_
    · rw [shW]; have := shE_len hw; omega
    · rw [mW]; have := mWs_mem m; omega
  | .row ws, ho => by
    rw [okW] at ho
    intro f g h
    rw [ev, ev]
    refine (ev_mns ws ho).2 _ _ fun k h1 h2 => h k ?_ ?_
    · rw [shW]; exact h1
    · rw [mW]; exact h2
  | .bes a b, ho => by
    rw [okW] at ho
    intro f g h
    rw [ev, ev]
    refine ev_mn a ho.1 _ _ fun i h1 h2 => ev_mn b ho.2 _ _ fun j h3 h4 => Nat.mul_le_mul_left _ (h _ ?_ ?_)
    · rw [shW, List.length_append, List.length_map, List.length_map]; omega
    · rw [mW]; omega
theorem ev_mns {B : Int} : ∀ ws : List Wk, okWs B ws → (∀ w ∈ ws, Mn (ev w) (shW w).length (mW w)) ∧ Mn (evR ws) (shR ws).length (mWs ws)
  | [], _ => by
    refine ⟨fun w hw => (by cases hw), ?_⟩
    intro f g h
    rw [evR, evR]
    exact h 0 (by rw [shR]; exact Nat.le_refl _) (by omega)
  | w :: ws, ho => by
    rw [okWs] at ho
    have h1 := ev_mn w ho.1
    have h2 := ev_mns ws ho.2
    refine ⟨fun x hx => ?_, ?_⟩
    · rcases List.mem_cons.mp hx with q | q
      · rw [q]; exact h1
      · exact h2.1 x q
    · intro f g h
      rw [evR, evR]
      refine h1 _ _ fun i h3 h4 => h2.2 _ _ fun j h5 h6 => h _ ?_ ?_
      · rw [shR, List.length_append]; omega
      · rw [mWs]; omega
end
def dl (n : Nat) : Nat → Nat := fun k => if k = n then 1 else 0
theorem ev_low {B : Int} {w : Wk} (h : okW B w) {n : Nat} (hn : n < (shW w).length) : ev w (dl n) = 0 := by
  have := ev_mn w h (dl n) (fun _ => 0) fun k h1 h2 => by unfold dl; rw [if_neg (by omega)]; exact Nat.le_refl _
  rw [(ev_lin w).zero] at this
  omega
theorem ev_high {B : Int} {w : Wk} (h : okW B w) {n : Nat} (hn : mW w < n) : ev w (dl n) = 0 := by
  have := ev_mn w h (dl n) (fun _ => 0) fun k h1 h2 => by unfold dl; rw [if_neg (by omega)]; exact Nat.le_refl _
  rw [(ev_lin w).zero] at this
  omega
theorem ev_mono {B : Int} {w : Wk} (h : okW B w) {f g : Nat → Nat} (hf : ∀ k, f k ≤ g k) : ev w f ≤ ev w g := ev_mn w h f g fun k _ _ => hf k
theorem evP_pos {body : (Nat → Nat) → Nat} {m : Nat} (mono : ∀ f g : Nat → Nat, (∀ k, f k ≤ g k) → body f ≤ body g) (h : ∀ f, f m ≤ body f) : ∀ (k : Nat) (f : Nat → Nat), f (k * m) ≤ evP body k f
  | 0, f => by rw [evP, Nat.zero_mul]; exact Nat.le_refl _
  | k + 1, f => by
    rw [evP]
    refine Nat.le_trans ?_ (h _)
    refine Nat.le_trans ?_ (evP_pos mono h k _)
    rw [show m + k * m = (k + 1) * m from by rw [Nat.succ_mul]; omega]
    exact Nat.le_refl _
mutual
theorem ev_sh {B : Int} : ∀ w : Wk, okW B w → ∀ f : Nat → Nat, f (shW w).length ≤ ev w f
  | .tick n, _, f => by rw [ev, shW, List.length_replicate]; exact Nat.le_refl _
  | .sme a b t, ho, f => by
    rw [okW] at ho
    rw [ev]
    have hm : a.toNat ∈ rgN a b := rg_of (by omega) ho.1 (by omega)
    have := sm_mem (f := fun k => f (k + 1)) hm
    refine Nat.le_trans ?_ this
    rw [shW]
    split <;> simp
  | .lop a b t w, ho, f => by
    rw [okW] at ho
    have ih := ev_sh w ho.2.2.2
    have mono : ∀ f g : Nat → Nat, (∀ k, f k ≤ g k) → ev w f ≤ ev w g := fun f g h => ev_mono ho.2.2.2 h
    rw [ev]
    have hm : a.toNat ∈ rgN a b := rg_of (by omega) ho.1 (by omega)
    have := sm_mem (f := fun k => evP (fun g => if t = true then ev w g else ev w fun i => g (i + 1)) k fun i => f (i + 1)) hm
    refine Nat.le_trans ?_ this
    cases t with
    | true =>
      simp only [if_true]
      have := evP_pos mono ih a.toNat fun i => f (i + 1)
      refine Nat.le_trans ?_ this
      rw [shW, if_pos rfl, List.length_cons, len_rep]
      exact Nat.le_refl _
    | false =>
      have := evP_pos (body := fun g => if false = true then ev w g else ev w fun i => g (i + 1)) (m := (shW w).length + 1) (fun f g h => mono _ _ fun k => h _) (fun f => ih fun i => f (i + 1)) a.toNat fun i => f (i + 1)
      refine Nat.le_trans ?_ this
      rw [shW, if_neg (by decide), List.length_append, len_rep, List.length_cons, List.length_singleton]
      exact Nat.le_refl _
  | .eit ws, ho, f => by
    rw [okW] at ho
    rw [ev, evE_sum, shW]
    obtain ⟨i, w, hw, e⟩ := shE_mem (pickS_mem (shE_ne ho.1 0))
    have hi := (List.getElem?_eq_some_iff.mp hw).1
    have m := List.mem_of_getElem? hw
    rw [e, List.length_cons]
    have := sm_mem (l := List.range ws.length) (f := fun i => ev (ws.getD i (.row [])) fun k => f (k + 1)) (List.mem_range.mpr hi)
    refine Nat.le_trans ?_ this
    rw [show ws.getD i (.row []) = w from by simp [List.getD, hw]]
    exact (ev_shs ws ho.2).1 w m fun k => f (k + 1)
  | .row ws, ho, f => by
    rw [okW] at ho
    rw [ev, shW]
    exact (ev_shs ws ho).2 f
  | .bes a b, ho, f => by
    rw [okW] at ho
    rw [ev, shW, List.length_append, List.length_map, List.length_map]
    refine Nat.le_trans ?_ (ev_sh a ho.1 _)
    refine Nat.le_trans ?_ (ev_sh b ho.2 _)
    exact Nat.le_mul_of_pos_left _ (ch_pos _ _ (by omega))
theorem ev_shs {B : Int} : ∀ ws : List Wk, okWs B ws → (∀ w ∈ ws, ∀ f : Nat → Nat, f (shW w).length ≤ ev w f) ∧ ∀ f : Nat → Nat, f (shR ws).length ≤ evR ws f
  | [], _ => by
    refine ⟨fun w hw => (by cases hw), fun f => ?_⟩
    rw [evR, shR]; exact Nat.le_refl _
  | w :: ws, ho => by
    rw [okWs] at ho
    have h1 := ev_sh w ho.1
    have h2 := ev_shs ws ho.2
    refine ⟨fun x hx => ?_, fun f => ?_⟩
    · rcases List.mem_cons.mp hx with q | q
      · rw [q]; exact h1
      · exact h2.1 x q
    · rw [evR, shR, List.length_append]
      exact Nat.le_trans (h2.2 fun j => f ((shW w).length + j)) (h1 fun i => evR ws fun j => f (i + j))
end
theorem ev_first {B : Int} {w : Wk} (h : okW B w) : 1 ≤ ev w (dl (shW w).length) := by
  have := ev_sh w h (dl (shW w).length)
  unfold dl at this ⊢
  rwa [if_pos rfl] at this
mutual
def xW : Wk → Nat
  | .tick _ => 0
  | .sme a b _ => ((b + 1 - a).toNat + 1) / 2
  | .lop a b _ w => (b.toNat + 1) * xW w + ((b + 1 - a).toNat + 1) / 2
  | .eit ws => xE ws
  | .row ws => xR ws
  | .bes a b => xW a + xW b + (mW a + mW b)
def xE : List Wk → Nat
  | [] => 0
  | w :: ws => xW w + 1 + xE ws
def xR : List Wk → Nat
  | [] => 0
  | w :: ws => xW w + xR ws
end
theorem two_h : ∀ n : Nat, n ≤ 2 ^ ((n + 1) / 2)
  | 0 => by decide
  | 1 => by decide
  | 2 => by decide
  | 3 => by decide
  | n + 4 => by
    have := two_h (n + 2)
    rw [show (n + 4 + 1) / 2 = (n + 2 + 1) / 2 + 1 from by omega, Nat.pow_succ]
    omega
theorem sm_le {α : Type} {l : List α} {f : α → Nat} {c : Nat} (h : ∀ x ∈ l, f x ≤ c) : sm l f ≤ l.length * c := by
  induction l with
  | nil => rw [sm_nil]; exact Nat.zero_le _
  | cons x l ih =>
    rw [sm_cons, List.length_cons, Nat.succ_mul]
    have := h x (List.mem_cons_self ..)
    have := ih fun y hy => h y (List.mem_cons_of_mem _ hy)
    omega
theorem evP_one {body : (Nat → Nat) → Nat} (hl : Lin body) {x : Nat} (h : body (fun _ => 1) ≤ 2 ^ x) : ∀ k, evP body k (fun _ => 1) ≤ 2 ^ (k * x)
  | 0 => by rw [evP, Nat.zero_mul]; decide
  | k + 1 => by
    rw [evP]
    have e : (body fun i => evP body k fun _ => 1) = evP body k (fun _ => 1) * body fun _ => 1 := by
      rw [← hl.mul]
      congr 1 <;> (funext i; rw [Nat.mul_one])
    rw [e, Nat.succ_mul, Nat.pow_add]
    exact Nat.mul_le_mul (evP_one hl h k) h
theorem two_sum {a b x y : Nat} (h : a ≤ 2 ^ x) (k : b ≤ 2 ^ y) : a + b ≤ 2 ^ (x + 1 + y) := by
  have h1 : 2 ^ x ≤ 2 ^ (x + y) := Nat.pow_le_pow_right (by decide) (by omega)
  have h2 : 2 ^ y ≤ 2 ^ (x + y) := Nat.pow_le_pow_right (by decide) (by omega)
  rw [show x + 1 + y = x + y + 1 from by omega, Nat.pow_succ]
  omega
mutual
theorem ev_num {B : Int} : ∀ w : Wk, okW B w → ev w (fun _ => 1) ≤ 2 ^ xW w
  | .tick n, _ => by rw [ev, xW]; decide
  | .sme a b t, ho => by
    rw [ev, xW]
    refine Nat.le_trans (sm_le (c := 1) fun _ _ => Nat.le_refl _) ?_
    rw [rg_len, Nat.mul_one]
    exact two_h _
  | .lop a b t w, ho => by
    rw [okW] at ho
    have ih := ev_num w ho.2.2.2
    rw [ev, xW]
    have h1 : ∀ k ∈ rgN a b, evP (fun g => if t = true then ev w g else ev w fun i => g (i + 1)) k (fun _ => 1) ≤ 2 ^ ((b.toNat + 1) * xW w) := fun k hk => by
      have hk2 := rg_mem ho.1 hk
      refine Nat.le_trans (evP_one (x := xW w) (Lin.ite (ev_lin w) ((ev_lin w).re (· + 1))) ?_ k) (Nat.pow_le_pow_right (by decide) (Nat.mul_le_mul_right _ (by omega)))
      split <;> exact ih
    refine Nat.le_trans (sm_le h1) ?_
    rw [rg_len, Nat.pow_add, Nat.mul_comm]
    exact Nat.mul_le_mul_left _ (two_h _)
  | .eit ws, ho => by rw [okW] at ho; rw [ev, xW]; exact (ev_nums ws ho.2).1
  | .row ws, ho => by rw [okW] at ho; rw [ev, xW]; exact (ev_nums ws ho).2
  | .bes a b, ho => by
    rw [okW] at ho
    have h1 := ev_num a ho.1
    have h2 := ev_num b ho.2
    rw [ev, xW]
    have e : (ev a fun i => ev b fun j => ch (i + j) i * 1) ≤ ev a fun i => ev b fun j => 2 ^ (mW a + mW b) * 1 :=
      ev_mn a ho.1 _ _ fun i _ h3 => ev_mn b ho.2 _ _ fun j _ h4 => Nat.mul_le_mul_right _ (Nat.le_trans (ch_two _ _) (Nat.pow_le_pow_right (by decide) (by omega)))
    refine Nat.le_trans e ?_
    rw [Nat.pow_add 2 (xW a + xW b), Nat.pow_add 2 (xW a)]
    obtain ⟨P, hP⟩ : ∃ P, P = 2 ^ (mW a + mW b) := ⟨_, rfl⟩
    rw [← hP, (ev_lin b).mul, show (fun _ : Nat => P * ev b fun _ => 1) = fun _ : Nat => (P * ev b fun _ => 1) * 1 from by funext i; rw [Nat.mul_one], (ev_lin a).mul, Nat.mul_comm P, Nat.mul_comm _ P, Nat.mul_right_comm, Nat.mul_comm _ P]
    rw [Nat.mul_assoc]
    exact Nat.mul_le_mul_left _ (Nat.mul_le_mul h1 h2)
theorem ev_nums {B : Int} : ∀ ws : List Wk, okWs B ws → evE ws (fun _ => 1) ≤ 2 ^ xE ws ∧ evR ws (fun _ => 1) ≤ 2 ^ xR ws
  | [], _ => by rw [evE, evR, xE, xR]; decide
  | w :: ws, ho => by
    rw [okWs] at ho
    have h1 := ev_num w ho.1
    have h2 := ev_nums ws ho.2
    rw [evE, evR, xE, xR]
    refine ⟨two_sum h1 h2.1, ?_⟩
    rw [show (fun _ : Nat => evR ws fun _ => 1) = fun _ : Nat => (evR ws fun _ => 1) * 1 from by funext i; rw [Nat.mul_one], (ev_lin w).mul, Nat.pow_add, Nat.mul_comm]
    exact Nat.mul_le_mul h1 h2.2
end
end K22
namespace K22
open PySem L2 Dl K17 K18 K24 K20 K28 K27 K23
local macro_rules | `(tactic| walk_at "ds") => `(tactic| repeat' with_reducible first
  | fail "stuck")
theorem shR_app (a b : List Wk) : shR (a ++ b) = shR a ++ shR b := by simp [shR_map]
theorem shR_inRow (w : Wk) : shR (inRow w) = shW w := by
  cases w <;> simp only [inRow, shR_map, List.flatMap_cons, List.flatMap_nil, List.append_nil]
  rw [shW, shR_map]
theorem sh_mkRow (l : List Wk) : shW (mkRow l) = shR l := by
  rcases mkRow_cases l with ⟨w, e, h⟩ | h
  · rw [h, e, shR_map]; simp
  · rw [h, shW]
theorem sh_over : shW (.row []) = [] := by rw [shW, shR]
mutual
theorem sh_tidy : ∀ w : Wk, shW (tidyW w) = shW w
  | .tick _ => by rw [tidyW] <;> simp
  | .sme _ _ _ => by rw [tidyW] <;> simp
  | .lop _ _ _ _ => by rw [tidyW] <;> simp
  | .eit _ => by rw [tidyW] <;> simp
  | .row ws => by rw [tidyW, sh_mkRow, shW, sh_flat ws]
  | .bes a b => by
    have h1 := sh_tidy a
    have h2 := sh_tidy b
    rw [tidyW]
    split
    · rename_i h
      rw [Bool.and_eq_true] at h
      rw [over_of h.1, sh_over] at h1
      rw [over_of h.2, sh_over] at h2
      rw [sh_over, shW, ← h1, ← h2]; rfl
    · rw [shW, shW, h1, h2]
theorem sh_flat : ∀ ws : List Wk, shR (flatW ws) = shR ws
  | [] => by rw [flatW]
  | w :: ws => by rw [flatW, shR_app, shR_inRow, sh_tidy w, shR, sh_flat ws]
end
theorem sh_aft (w : Wk) (s : Sg) : shW (aft w s) = shW (behW w s) := sh_tidy _
theorem sh_tk {n : Int} (h : 0 ≤ n) : shW (tkW n) = List.replicate n.toNat .tick := by
  unfold tkW
  split
  · rw [shW]
  · rw [sh_over, show n.toNat = 0 from by omega]; rfl
theorem shR_rep (k : Nat) (w : Wk) : shR (List.replicate k w) = (List.replicate k (shW w)).flatten := by
  induction k with
  | zero => rfl
  | succ k ih => rw [List.replicate_succ, shR, ih, List.replicate_succ, List.flatten_cons]
def slW (w : Wk) (s : Sg) : Nat := (shW (behW w s)).length
def Gr (w : Wk) (k : Nat) (s : Sg) : Prop := (nxW w)[k]? = some s ∧ shW w = s :: shW (behW w s) ∧ ∀ (j : Nat) (t : Sg), (nxW w)[j]? = some t → slW w s < slW w t ∨ (slW w s = slW w t ∧ k ≤ j)
theorem filt_at {α : Type} (p : α → Bool) (d : α) : ∀ {l : List α}, (∃ x ∈ l, p x = true) → ∃ k : Nat, l[k]? = some ((l.filter p).headD d) ∧ p ((l.filter p).headD d) = true ∧ ∀ (j : Nat) (r : α), l[j]? = some r → p r = true → k ≤ j
  | [], h => by obtain ⟨x, hx, _⟩ := h; cases hx
  | x :: l, h => by
    cases e : p x with
    | true =>
      refine ⟨0, ?_, ?_, fun j r _ _ => Nat.zero_le _⟩
      · rw [List.filter_cons, if_pos e]; rfl
      · rw [List.filter_cons, if_pos e]; exact e
    | false =>
      obtain ⟨y, hy, py⟩ := h
      have hy2 : y ∈ l := by
        rcases List.mem_cons.mp hy with q | q
        · rw [q, e] at py; cases py
        · exact q
      obtain ⟨k, h1, h2, h3⟩ := filt_at p d ⟨y, hy2, py⟩
      rw [List.filter_cons, if_neg (by rw [e]; decide)]
      refine ⟨k + 1, by simpa using h1, h2, fun j r hj pr => ?_⟩
      cases j with
      | zero =>
        simp only [List.getElem?_cons_zero, Option.some.injEq] at hj
        rw [← hj, e] at pr; cases pr
      | succ j => have := h3 j r (by simpa using hj) pr; omega
theorem pick_at {l : List (List Sg)} (h : l ≠ []) : ∃ k : Nat, l[k]? = some (pickS l) ∧ ∀ (j : Nat) (r : List Sg), l[j]? = some r → (pickS l).length < r.length ∨ ((pickS l).length = r.length ∧ k ≤ j) := by
  have m := minL_mem (l := l.map fun r => (r.length : Int)) (by simpa using h)
  obtain ⟨r, hr, e⟩ := List.mem_map.mp m
  obtain ⟨k, h1, h2, h3⟩ := filt_at (fun r => decide ((r.length : Int) = lenMin l)) [] ⟨r, hr, decide_eq_true e⟩
  refine ⟨k, h1, fun j q hj => ?_⟩
  have h4 : ((pickS l).length : Int) = lenMin l := of_decide_eq_true h2
  have h5 : lenMin l ≤ (q.length : Int) := minL_le (List.mem_map.mpr ⟨q, List.mem_of_getElem? hj, rfl⟩)
  by_cases c : (q.length : Int) = lenMin l
  · exact .inr ⟨by omega, h3 j q hj (decide_eq_true c)⟩
  · exact .inl (by omega)
theorem many_at {a b : Int} {j : Nat} {t : Sg} (h : (manyS a b)[j]? = some t) : t = .many (a + j) ∧ (j : Int) < b + 1 - a := by
  unfold manyS at h
  rw [List.getElem?_map] at h
  cases e : (List.range (b + 1 - a).toNat)[j]? with
  | none => rw [e] at h; cases h
  | some i =>
    rw [e] at h
    obtain ⟨hi, e2⟩ := List.getElem?_eq_some_iff.mp e
    rw [List.length_range] at hi
    rw [List.getElem_range] at e2
    subst e2
    exact ⟨(Option.some.inj h).symm, by omega⟩
theorem many_0 {a b : Int} (h : a ≤ b) : (manyS a b)[0]? = some (.many a) := by
  unfold manyS
  rw [List.getElem?_map, List.getElem?_range (by omega)]
  show some (Sg.many (a + 0)) = _
  rw [Int.add_zero]
theorem gr_row {w : Wk} {ws : List Wk} {k : Nat} {s : Sg} (h : Gr w k s) : Gr (.row (w :: ws)) k s := by
  obtain ⟨h1, h2, h3⟩ := h
  have e : ∀ t, shW (behW (.row (w :: ws)) t) = shW (behW w t) ++ shR ws := fun t => by
    rw [show behW (.row (w :: ws)) t = .row (behW w t :: ws) from by simp [behW, behWs], shW, shR]
  refine ⟨by rw [nxW, nxWs]; exact h1, by rw [e, shW, shR, h2]; rfl, fun j t hj => ?_⟩
  rw [nxW, nxWs] at hj
  have := h3 j t hj
  unfold slW at this ⊢
  rw [e, e, List.length_append, List.length_append]
  omega
theorem gr_bes {a b : Wk} (ha : isOver a = true ∨ ∃ k s, Gr a k s) (hb : isOver b = true ∨ ∃ k s, Gr b k s) (h : (isOver a && isOver b) = false) : ∃ k s, Gr (.bes a b) k s := by
  have eL : ∀ t, shW (behW (.bes a b) (.left t)) = (shW (behW a t)).map .left ++ (shW b).map .right := fun t => by
    rw [show behW (.bes a b) (.left t) = .bes (behW a t) b from by simp [behW], shW]
  have eR : ∀ t, shW (behW (.bes a b) (.right t)) = (shW a).map .left ++ (shW (behW b t)).map .right := fun t => by
    rw [show behW (.bes a b) (.right t) = .bes a (behW b t) from by simp [behW], shW]
  rcases ha with ha | ⟨k, s, h1, h2, h3⟩
  · rcases hb with hb | ⟨k, s, h1, h2, h3⟩
    · rw [ha, hb] at h; cases h
    · refine ⟨k, .right s, ?_, ?_, fun j t hj => ?_⟩
      · rw [nxW, nx_over ha, List.map_nil, List.nil_append, List.getElem?_map, h1]; rfl
      · rw [eR, shW, over_of ha, sh_over, h2]; rfl
      · rw [nxW, nx_over ha, List.map_nil, List.nil_append, List.getElem?_map] at hj
        cases e : (nxW b)[j]? with
        | none => rw [e] at hj; cases hj
        | some u =>
          rw [e] at hj
          obtain rfl : Sg.right u = t := Option.some.inj hj
          have := h3 j u e
          unfold slW at this ⊢
          rw [eR, eR]
          simp only [List.length_append, List.length_map]
          omega
  · have hk : k < (nxW a).length := (List.getElem?_eq_some_iff.mp h1).1
    refine ⟨k, .left s, ?_, ?_, fun j t hj => ?_⟩
    · rw [nxW, List.getElem?_append_left (by rw [List.length_map]; exact hk), List.getElem?_map, h1]; rfl
    · rw [eL, shW, h2]; rfl
    · rw [nxW] at hj
      by_cases c : j < (nxW a).length
      · rw [List.getElem?_append_left (by rw [List.length_map]; exact c), List.getElem?_map] at hj
        cases e : (nxW a)[j]? with
        | none => rw [e] at hj; cases hj
        | some u =>
          rw [e] at hj
          obtain rfl : Sg.left u = t := Option.some.inj hj
          have := h3 j u e
          unfold slW at this ⊢
          rw [eL, eL]
          simp only [List.length_append, List.length_map]
          omega
      · rw [List.getElem?_append_right (by rw [List.length_map]; omega), List.getElem?_map, List.length_map] at hj
        cases e : (nxW b)[j - (nxW a).length]? with
        | none => rw [e] at hj; cases hj
        | some u =>
          rw [e] at hj
          obtain rfl : Sg.right u = t := Option.some.inj hj
          rcases hb with hb | ⟨k', s', g1, g2, g3⟩
          · rw [nx_over hb] at e; cases e
          · have := g3 _ u e
            have l2 := congrArg List.length h2
            have l3 := congrArg List.length g2
            rw [List.length_cons] at l2 l3
            unfold slW at this ⊢
            rw [eL, eR]
            simp only [List.length_append, List.length_map]
            omega
theorem gr_end {w : Wk} {b : Int} {s : Sg} (hn : nxW w = (if 0 < b then [s] else []) ++ [.fin]) (h1 : shW w = [.fin]) (h2 : behW w .fin = .row []) (h3 : 0 < slW w s) : ∃ k t, Gr w k t := by
  have e0 : slW w .fin = 0 := by unfold slW; rw [h2, sh_over]; rfl
  by_cases hb : 0 < b
  · rw [if_pos hb] at hn
    refine ⟨1, .fin, by rw [hn]; rfl, by rw [h1, h2, sh_over], fun j t hj => ?_⟩
    rw [hn] at hj
    match j, hj with
    | 0, hj => obtain rfl : s = t := Option.some.inj hj; exact .inl (by omega)
    | 1, hj => obtain rfl : Sg.fin = t := Option.some.inj hj; exact .inr ⟨rfl, Nat.le_refl _⟩
    | j + 2, hj => simp at hj
  · rw [if_neg hb] at hn
    refine ⟨0, .fin, by rw [hn]; rfl, by rw [h1, h2, sh_over], fun j t hj => ?_⟩
    rw [hn] at hj
    match j, hj with
    | 0, hj => obtain rfl : Sg.fin = t := Option.some.inj hj; exact .inr ⟨rfl, Nat.le_refl _⟩
    | j + 1, hj => simp at hj
theorem gr_one {w : Wk} {s : Sg} (hn : nxW w = [s]) (h1 : shW w = s :: shW (behW w s)) : ∃ k t, Gr w k t := by
  refine ⟨0, s, by rw [hn]; rfl, h1, fun j t hj => ?_⟩
  rw [hn] at hj
  match j, hj with
  | 0, hj => obtain rfl : s = t := Option.some.inj hj; exact .inr ⟨rfl, Nat.le_refl _⟩
  | j + 1, hj => simp at hj
theorem gr_of {B : Int} : ∀ w : Wk, okW B w → tidyW w = w → isOver w = false → ∃ k s, Gr w k s
  | .tick n, h, _, _ => by
    rw [okW] at h
    refine gr_one (s := .tick) (by rw [nxW]) ?_
    rw [show behW (.tick n) .tick = tkW (n - 1) from by simp [behW], sh_tk (by omega), shW, show n.toNat = (n - 1).toNat + 1 from by omega, List.replicate_succ]
  | .sme a b true, h, _, _ => by
    rw [okW] at h
    have e : ∀ m : Int, behW (.sme a b true) (.many m) = tkW m := fun m => by simp [behW]
    refine ⟨0, .many a, by rw [nxW, if_pos rfl]; exact many_0 h.2.1, by rw [e, sh_tk h.1, shW, if_pos rfl], fun j t hj => ?_⟩
    rw [nxW, if_pos rfl] at hj
    obtain ⟨rfl, hj2⟩ := many_at hj
    unfold slW
    rw [e, e, sh_tk h.1, sh_tk (by omega), List.length_replicate, List.length_replicate]
    omega
  | .sme a b false, h, _, _ => by
    rw [okW] at h
    by_cases ha : a = 0
    · subst ha
      refine gr_end (b := b) (s := .tick) (by rw [nxW, if_neg (by decide), if_pos rfl]) (by rw [shW, if_neg (by decide)]; rfl) (by simp [behW]) ?_
      unfold slW
      rw [show behW (.sme 0 b false) .tick = .sme (dec0 0) (b - 1) false from by simp [behW], shW, if_neg (by decide), List.length_append, List.length_singleton]
      omega
    · refine gr_one (s := .tick) (by rw [nxW, if_neg (by decide), if_pos (by omega), if_neg ha]; rfl) ?_
      rw [show behW (.sme a b false) .tick = .sme (dec0 a) (b - 1) false from by simp [behW], shW, shW, if_neg (by decide), if_neg (by decide),
        show a.toNat = (dec0 a).toNat + 1 from by unfold dec0; split <;> omega, List.replicate_succ]
      rfl
  | .lop a b true w, h, _, _ => by
    rw [okW] at h
    have e : ∀ m : Int, shW (behW (.lop a b true w) (.many m)) = (List.replicate m.toNat (shW w)).flatten := fun m => by
      rw [show behW (.lop a b true w) (.many m) = .row (List.replicate m.toNat w) from by simp [behW], shW, shR_rep]
    refine ⟨0, .many a, by rw [nxW, if_pos rfl]; exact many_0 h.2.1, by rw [e, shW, if_pos rfl], fun j t hj => ?_⟩
    rw [nxW, if_pos rfl] at hj
    obtain ⟨rfl, hj2⟩ := many_at hj
    unfold slW
    rw [e, e, len_rep, len_rep]
    have : a.toNat * (shW w).length ≤ (a + j).toNat * (shW w).length := Nat.mul_le_mul_right _ (by omega)
    omega
  | .lop a b false w, h, _, _ => by
    rw [okW] at h
    have em : ∀ a : Int, shW (behW (.lop a b false w) .more) = shW w ++ shW (.lop (dec0 a) (b - 1) false w) := fun a => by
      rw [show behW (.lop a b false w) .more = .row [w, .lop (dec0 a) (b - 1) false w] from by simp [behW], show ∀ l, shW (.row l) = shR l from fun l => by rw [shW]]
      simp only [shR_map, List.flatMap_cons, List.flatMap_nil, List.append_nil]
    by_cases ha : a = 0
    · subst ha
      refine gr_end (b := b) (s := .more) (by rw [nxW, if_neg (by decide), if_pos rfl]) (by rw [shW, if_neg (by decide)]; rfl) (by simp [behW]) ?_
      unfold slW
      rw [em, List.length_append, shW, if_neg (by decide), List.length_append, List.length_singleton]
      omega
    · refine gr_one (s := .more) (by rw [nxW, if_neg (by decide), if_pos (by omega), if_neg ha]; rfl) ?_
      rw [em, shW, shW, if_neg (by decide), if_neg (by decide), show a.toNat = (dec0 a).toNat + 1 from by unfold dec0; split <;> omega, List.replicate_succ, List.flatten_cons, List.append_assoc]
      rfl
  | .eit ws, h, _, _ => by
    rw [okW] at h
    obtain ⟨k, h1, h2⟩ := pick_at (shE_ne h.1 0)
    have e : ∀ i, behW (.eit ws) (.way i) = ws.getD i (.row []) := fun i => by simp [behW]
    have eL : ∀ j, (shE ws 0)[j]? = ((nxW (.eit ws))[j]?).map fun s => s :: shW (behW (.eit ws) s) := fun j => by
      rw [shE_map, nxW, List.getElem?_map, List.getElem?_map, Option.map_map]
      congr 1; funext i
      simp only [Function.comp, Nat.zero_add, e]
    rw [eL] at h1
    cases q : (nxW (.eit ws))[k]? with
    | none => rw [q] at h1; cases h1
    | some s =>
      rw [q] at h1
      have h3 : s :: shW (behW (.eit ws) s) = pickS (shE ws 0) := Option.some.inj h1
      refine ⟨k, s, q, by rw [shW, ← h3], fun j t hj => ?_⟩
      have := h2 j _ (by rw [eL, hj]; rfl)
      rw [← h3, List.length_cons, List.length_cons] at this
      unfold slW
      omega
  | .row [], _, _, h => by simp [isOver] at h
  | .row (w :: ws), h, t, _ => by
    rw [okW, okWs] at h
    have k := tidy_row t
    obtain ⟨i, s, g⟩ := gr_of w h.1 k.1 k.2
    exact ⟨i, s, gr_row g⟩
  | .bes a b, h, t, _ => by
    rw [okW] at h
    obtain ⟨ta, tb, c⟩ := tidy_bes t
    refine gr_bes ?_ ?_ c
    · cases e : isOver a with
      | true => exact .inl rfl
      | false => exact .inr (gr_of a h.1 ta e)
    · cases e : isOver b with
      | true => exact .inl rfl
      | false => exact .inr (gr_of b h.2 tb e)
end K22
namespace Dl
open PySem L2
abbrev DZ := DX → DSt → GH → Prop
abbrev XTE := DZ → DTE
abbrev XTA := DZ → DTA
abbrev XTT := DZ → DTT
abbrev XTS := DZ → DTS
def ZOk (K : PySem.W.Frag) (W : WX) (G : GH) (H : Hp) (Z : DZ) : Prop := ∀ x c od σ' H' ρ' G', Ext G H G' H' → DRel K σ' H' ρ' G' → ExcRep K G' H' x c od → Z x ρ' G' → W c od σ' H'
theorem ZOk.ext {K : PySem.W.Frag} {W : WX} {G G1 : GH} {H H1 : Hp} {Z : DZ} (z : ZOk K W G H Z) (e : Ext G H G1 H1) : ZOk K W G1 H1 Z := fun x c od σ' H' ρ' G' e2 => z x c od σ' H' ρ' G' (e.trans e2)
def upX (K : PySem.W.Frag) (W : WX) (t : XTE) : TE := fun σ H Qv => ∃ ρ G Q Z, DRel K σ H ρ G ∧ t Z ρ G Q ∧ (∀ v d H' G', Ext G H G' H' → DRel K σ H' ρ G' → RepV K G' H' d v → Q d G' → Qv v H') ∧ ZOk K W G H Z
abbrev XE1 (X : Cx) (W : WX) (e : Expr) (t : XTE) : Prop := PE X e (upX X.K W t)
section
variable {X : Cx} {W : WX}
end
abbrev XFn (P : Program) (w : World) (K : PySem.W.Frag) (mg : Str → Option Value) (base : Heap) (k : Nat) (f : Addr) (fd : FuncData) (ps : List Str) (sp : DSp) : Prop := GFn P w K mg base (L2.CX P w) k f fd ps (toSp K sp)
section
variable {X : Cx} {W : WX} {CX : CXT} {k : Nat} {f : Addr} {fd : FuncData} {ps : List Str} {x : Str} {p pos : Pos} {e : Expr} {es : List Expr} {E : St → XK}
end
structure XCallee (P : Program) (w : World) (K : PySem.W.Frag) (mg : Str → Option Value) (base : Heap) (k : Nat) (x : Str) (ps : List Str) (sp : DSp) : Prop where
  ex : ∃ f fd, XFn P w K mg base k f fd ps sp ∧ mg x = some (.ref f) ∧ PySem.W.keepIn K (.ref f) = true ∧ Binds K fd ps [] ∧ KwB K fd ps ps (fun l => l)
section
variable {X : Cx} {W : WX} {k : Nat} {f : Addr} {fd : FuncData} {ps : List Str} {sp : DSp} {x : Str} {p pos : Pos} {e : Expr} {es : List Expr} {ta : XTA}
end
end Dl
namespace Dl
open PySem L2 PyProof.Rows
abbrev veInit : String := "ValueError.__init__"
structure ExcS (K : PySem.W.Frag) (file : Str) (C f c cc D : Addr) : Prop where
  ox : OexC K C
  ini : PySem.W.findIn K (.ref C) "__init__" = some (some (.ref f))
  fnT : PySem.W.typeIn K (.ref f) = some (.type "function")
  kD : ∃ cd, PySem.W.clsIn K D = some cd
  cell : ∃ a b sl, K.lookup cc = some ⟨a, b, .cell (some (.ref D)), sl⟩
  code : ∃ a b vs sl t fl, K.lookup c = some ⟨a, b, .fields vs, sl⟩ ∧ vs[2]? = some (.str fl t) ∧ ((file : Str) == fl) = true
  sub : PySem.W.mroIn K C (.ref D) = some true
  next : PySem.W.ks_superIn K C D "__init__" = some (some (.builtin veInit))
  isV : PySem.W.subIn K (.ref C) (.type "ValueError") = some true
  noSuper : PySem.W.nsIn K mainGlobals "super" = some none
  noOpq : PySem.W.nsIn K cStatics "thirdparty.any" = some none
section
variable {prog : Program} {w : World} {A : Around} {E : Value → Shared → Prop}
end
section
variable {X : Cx} {pins : List (Addr × Obj)} {σ : L2.St} {H : Hp} {s : Shared} {C f c cc D a : Addr} {A : Around} {body : List Stmt} {E : Value → Shared → Prop}
end
def spI (C : Addr) (fl : List Str) : Sp := fun vs H Q _ => ∃ (a : Addr) (ws : List V), vs = .ref a :: ws ∧ ws.length = fl.length ∧ H a = some (exo a C none) ∧
  ∀ (dx : Addr) (H' : Hp), H dx = none → dx ≠ a → H' a = some (exo a C (some dx)) → H' dx = some (exd dx (fl.zip ws).reverse) → (∀ b, b ≠ a → b ≠ dx → H' b = H b) → Q .non H'
section
open LamX NdefX
variable {P : Program} {w : World} {K : PySem.W.Frag} {mg : Str → Option Value} {base : Heap} {C f c cc D : Addr} {qual : Str} {params : Arguments} {scope : Scope} {xs fl : List Str} {rest : List Stmt} {dV kV doc pm ct oc : Value} {an od : Option Addr} {osl : Array (Option Value)}
end
end Dl
namespace Dl
open PySem L2 PyProof.Rows LamX NdefX
section
variable {P : Program} {w : World} {K : PySem.W.Frag} {mg : Str → Option Value} {base : Heap} {C f c cc D : Addr} {qual x1 x2 f1 f2 : Str} {params : Arguments} {scope : Scope} {dV kV doc pm ct oc : Value} {an od : Option Addr} {osl : Array (Option Value)}
  {p0 p1 p2 p3 p4 q1 q2 r1 r2 r3 r4 r5 r6 r7 r8 : Pos} {ar : Arg}
end
structure XClass (P : Program) (w : World) (K : PySem.W.Frag) (mg : Str → Option Value) (x : Str) (fl : List Str) : Prop where
  ox : OexC K (He.ga K x)
  few : fl.length ≤ 100
  at_ : mg x = some (.ref (He.ga K x))
  made : ∀ base : Heap, ∃ f fd ps, PySem.W.findIn K (.ref (He.ga K x)) "__init__" = some (some (.ref f)) ∧ PySem.W.typeIn K (.ref f) = some (.type "function") ∧ FnOk P w K mg base CX0 1 f fd ps (spI (He.ga K x) fl) ∧ Binds K fd ps []
section
variable {X : Cx} {W : WX} {x : Str} {fl : List Str} {e : Expr} {es : List Expr} {ta : XTA} {p pos pos' : Pos}
end
end Dl
namespace Dl
open PySem L2 PyProof.Rows LamX
section
variable {X : Cx} {pins : List (Addr × Obj)} {σ : L2.St} {H : Hp} {s : Shared}
end
section
variable {X : Cx}
end
end Dl
namespace Dl
open PySem L2 PyProof.Rows LamX
structure Act where
  q : Str
  φ : Addr → Addr → Heap → Prop
  n0 : Addr → Prop
  H0 : Hp
  tl : DXK → GH → DK → Prop
abbrev Act.d (α : Act) : D := .fn α.q α.φ α.n0 α.H0
@[simp] def xAct (i : Nat) (α : Act) : XTE := fun Z ρ G Q => sl ρ i = some α.d ∧ α.tl (fun x G' => Z x ρ G') G Q
section
variable {X : Cx} {pins : List (Addr × Obj)} {σ : L2.St} {H : Hp} {s : Shared} {ρX : DSt} {GX : GH}
end
structure Hearer (P : Program) (w : World) (K : PySem.W.Frag) (mg : Str → Option Value) (base : Heap) (k : Nat) (x : Str) (rH : Act → DTS) (n : Nat) : Prop where
  ex : ∃ (g : Addr) (pg : Arguments) (bg : List Stmt) (sg : Scope) (Ng : List Str) (a : Str) (dV kV doc pm cdv ct oc : Value) (an od : Option Addr) (osl : Array (Option Value)),
    mg x = some (.ref g) ∧ PySem.W.keepIn K (.ref g) = true ∧ K.lookup g = some ⟨oc, od, .func (PySem.W.fnOf x x pg bg sg dV kV doc pm an cdv ct), osl⟩ ∧ PySem.W.codeIn K cdv x = true ∧ L2.Binds K (PySem.W.fnOf x x pg bg sg dV kV doc pm an cdv ct) [a] [] ∧
    FnScope Ng [a] sg ∧ Ng.length = n ∧ Ng[0]? = some a ∧ Vis sg a ∧ (a == ("__debug__" : Str)) = false ∧ (a == ("__classdict__" : Str)) = false ∧
    ∀ (A : Around) (out : List Env) (st : Shared) (H : Hp) (α : Act), Room (k + 1) (A.deeper (envOfC x sg st.heap.objs.size g cdv)) → (A.deeper (envOfC x sg st.heap.objs.size g cdv)).guards = some [] →
      (∀ (W : WX) (pn : List (Addr × Obj)) (xe : Value → Shared → Prop) (p1 p2 : Pos), Takes ((cxOf CX0 P w K mg base Ng x sg g cdv A out st H E0).tr pn xe) W →
        XE1 ((cxOf CX0 P w K mg base Ng x sg g cdv A out st H E0).tr pn xe) W (.Call (.Name a p1) [] [] p2) (xAct 0 α)) →
      DSs (cxOf CX0 P w K mg base Ng x sg g cdv A out st H E0).nox bg (rH α)
structure LamI where
  q : Str
  φ : Addr → Addr → Heap → Prop
  t : XTE
section
variable {X : Cx} {k n : Nat} {x : Str} {rH : Act → DTS} {Ls : List LamI} {e : Expr} {te : DTE} {p pos : Pos}
end
end Dl
namespace Dl
open PySem L2 PyProof.Rows
abbrev CTab := List (Str × List Str × List Str)
def CTab.names (T : CTab) : List Str := T.map (·.1)
structure ExT1 (K : PySem.W.Frag) (T : CTab) (c : Str) (as fs : List Str) : Prop where
  cl : (PySem.W.clsIn K (He.ga K c)).isSome = true
  xf : XfC K (He.ga K c)
  ha : PySem.W.findIn K (.ref (He.ga K c)) "__class__" = some (some (.builtin "object.__class__"))
  hn : PySem.W.specialIn K (.builtin "object.__class__") "__get__" = some (some (.builtin "getset_descriptor.__get__"))
  ht : PySem.W.takesIn K (.builtin "object.__class__") = some true
  hm : PySem.W.mroIn K (He.ga K c) (.type "object") = some true
  ve : PySem.W.kitOne K (.ref (He.ga K c)) (.type "ValueError") = some true
  no : ∀ f ∈ fs, PySem.W.findIn K (.ref (He.ga K c)) f = some none
  sub : ∀ t ∈ T.names, PySem.W.kitOne K (.ref (He.ga K c)) (.ref (He.ga K t)) = some (as.contains t) ∧ PySem.W.exmOne K (.ref (He.ga K c)) (.ref (He.ga K t)) = some (as.contains t)
section
variable {X : Cx} {CT : CTab} {a d : Addr} {c T f : Str} {oe : Obj} {pn : List (Addr × Obj)} {e : Expr} {te : DTE} {p pt pos : Pos}
end
section
variable {X : Cx} {CT : CTab} {T n : Str} {i : Nat} {body suite : List Stmt} {b₀ : Stmt} {np pos pos' : Pos} {tb : XTS} {ts : Addr → Str → Addr → DTS}
end
end Dl
namespace Dl
open PySem L2 PyProof.Rows LamX
structure XCalleeG (P : Program) (w : World) (K : PySem.W.Frag) (mg : Str → Option Value) (base : Heap) (k : Nat) (x : Str) (n : Nat) (ks : List Str) (src : List (Nat × Nat)) (dv : List D) (sp : DSp) : Prop where
  ex : ∃ f fd ps, XFn P w K mg base k f fd ps sp ∧ mg x = some (.ref f) ∧ PySem.W.keepIn K (.ref f) = true ∧ ∃ (its : List Value) (dvs : List V), Vals dvs its ∧ (∀ G H, RepL K G H dv dvs) ∧
    ∀ (s : Shared) (us ws : List Value), K.In s.heap → us.length = n → ws.length = ks.length → BindsTo s fd ⟨us, ks.zip ws⟩ (ps.zip (pick src us its ws))
section
variable {X : Cx} {W : WX} {k n : Nat} {x : Str} {ks : List Str} {src : List (Nat × Nat)} {dv : List D} {sp : DSp} {p pos : Pos} {e : Expr} {es : List Expr} {ta tk : DTA} {kws : List Keyword}
end
section
variable {P : Program} {w : World} {K : PySem.W.Frag} {mg : Str → Option Value} {base : Heap} {k n : Nat} {x qual : Str} {params : Arguments} {body : List Stmt} {scope : Scope} {f : Addr} {fd : FuncData} {ps ks : List Str} {src : List (Nat × Nat)} {sp sp' : DSp}
end
section
variable {X : Cx} {W : WX} {k : Nat} {x : Str} {ps : List Str} {sp : DSp} {p pos : Pos} {ta : DTA} {kws : List Keyword}
end
section
variable {P : Program} {w : World} {K : PySem.W.Frag} {mg : Str → Option Value} {base : Heap} {x qual : Str} {params : Arguments} {body : List Stmt} {scope : Scope} {dvs : List V} {kws : List (Str × V)} {f c : Addr} {fd : FuncData} {N ps : List Str} {k : Nat} {sp : DSp}
end
section
variable {X : Cx} {k n : Nat} {x q : Str} {rH : Act → DTS} {p lpos pos : Pos} {c T : Addr} {params : Arguments} {body : Expr} {scope : Scope} {t : XTE}
end
section
variable {P : Program} {w : World} {K : PySem.W.Frag} {mg : Str → Option Value} {base : Heap} {k : Nat} {x a : Str} {pg : Arguments} {bg : List Stmt} {sg : Scope} {g : Addr} {fd : FuncData} {Ng : List Str} {rH : Act → DTS}
end
section
variable {X : Cx} {W : WX}
end
end Dl
namespace Dl
open PySem PySem.Spec PyProof.Rows L2 LamX
structure XD where
  x : Str
  qual : Str
  params : Arguments
  body : List Stmt
  scope : Scope
  fl : List Str
abbrev FnE : Type := Option (Str × Str × Arguments × FuncBody × Scope × Addr × List Str × Addr)
def iniA (K : PySem.W.Frag) (x : Str) : Addr := He.ma K (He.ga K x) "__init__"
def fnE (K : PySem.W.Frag) (x : Str) : FnE := match K.lookup (iniA K x) with
  | some ⟨_, _, .func fd, _⟩ => some (fd.name, fd.qualname, fd.params, fd.body, fd.scope, fd.globals, fd.closure.map (·.1), fd.builtins)
  | _ => none
def XD.val (d : XD) : FnE := some ("__init__", d.qual, d.params, .stmts d.body, d.scope, mainGlobals, [("__class__" : Str)], builtinsNs)
structure XinOk (K : PySem.W.Frag) (file : Str) (d : XD) (f c cc D : Addr) : Prop where
  s : ExcS K file (He.ga K d.x) f c cc D
  at_ : PySem.W.nsIn K mainGlobals d.x = some (some (.ref (He.ga K d.x)))
  no : ∀ g ∈ d.fl, PySem.W.findIn K (.ref (He.ga K d.x)) g = some none
  fn : ∃ (oc doc pm ct : Value) (an od : Option Addr) (osl : Array (Option Value)), K.lookup f = some ⟨oc, od, .func (PySem.W.fnX "__init__" d.qual d.params d.body d.scope [(("__class__" : Str), cc)] .none .none doc pm an (.ref c) ct), osl⟩
  code : PySem.W.codeIn K (.ref c) d.qual = true
section
open NdefX
variable {P : Program} {w : World} {K : PySem.W.Frag} {mg : Str → Option Value} {d : XD} {x1 x2 f1 f2 : Str} {p0 p1 p2 p3 p4 q1 q2 r1 r2 r3 r4 r5 r6 r7 r8 : Pos} {ar : Arg}
end
structure PDef where
  c : Str
  f : Str
  params : Arguments
  body : List Stmt
  scope : Scope
def atA (K : PySem.W.Frag) (c f : Str) : Addr := He.ma K (He.ga K c) f
def getA (K : PySem.W.Frag) (c f : Str) : Addr := match PySem.W.recIn K (atA K c f) "property" with
  | some (.ref g :: _) => g
  | _ => (match PySem.W.recIn K (atA K c f) "classmethod" with
    | some (.ref g :: _) => g
    | _ => 0)
def fnP (K : PySem.W.Frag) (c f : Str) : FnE := match K.lookup (getA K c f) with
  | some ⟨_, _, .func fd, _⟩ => some (fd.name, fd.qualname, fd.params, fd.body, fd.scope, fd.globals, fd.closure.map (·.1), fd.builtins)
  | _ => none
def PDef.qual (d : PDef) : Str := d.c ++ "." ++ d.f
def PDef.val (d : PDef) : FnE := some (d.f, d.qual, d.params, .stmts d.body, d.scope, mainGlobals, [], builtinsNs)
structure SaysE (fx : List Fx) (fn : List He.DefD) (tf : List He.Defn) (ex : PySem.W.Frag → Bool) (xs : List XD) (pd : List PDef) (h : Heap) (K : PySem.W.Frag) : Prop where
  x : SaysX fx fn K
  more : ex K = true
  ini : ∀ d ∈ xs, fnE K d.x = d.val
  get : ∀ d ∈ pd, fnP K d.c d.f = d.val
  hd : ∀ p ∈ tf, PySem.W.codeHdIn K (He.cT K p).1 (He.cT K p).2 = true
  out : ∀ p ∈ tf, K.lookup (He.cT K p).2 = none
  empty : ∀ p ∈ tf, h.get? (He.cT K p).2 = some { cls := .none, data := .fields #[] }
  nd : (tf.map fun p => (He.cT K p).2).Nodup
end Dl
namespace Dl
open PySem L2 PyProof.Rows LamX
section
variable {X : Cx} {pins : List (Addr × Obj)} {σ : L2.St} {H : Hp} {s : Shared}
end
section
variable {X : Cx} {pins : List (Addr × Obj)} {σ : L2.St} {ρX : DSt} {k n : Nat} {x : Str} {rH : Act → DTS} {Ls : List LamI} {e : Expr} {te : DTE} {p pos : Pos}
end
section
variable {X : Cx} {k n iy : Nat} {x y : Str} {rH : Act → DTS} {Ls : List LamI} {tc : DTE} {r : DR2} {wi : DTI}
end
section
variable {X : Cx}
end
end Dl
namespace Dl
open PySem L2 PyProof.Rows
section
variable {X : Cx}
end
section
variable {K : PySem.W.Frag} {G : GH} {H : Hp}
end
section
variable {X : Cx}
end
end Dl
namespace Dl
open PySem L2
section
variable {K : PySem.W.Frag} {G : GH} {H : Hp}
end
section
variable {X : Cx} {e o value : Expr} {c f : Str} {pos pos' : Pos} {te to tv : DTE}
end
section
variable {X : Cx} {CX : CXT} {k : Nat} {C f : Addr} {fd : FuncData} {ps : List Str} {x m : Str} {p pos apos : Pos} {e o : Expr} {es : List Expr} {E : XK} {ta : TE} {t : TA}
end
structure MCallee (P : Program) (w : World) (K : PySem.W.Frag) (mg : Str → Option Value) (base : Heap) (k : Nat) (c m : Str) (ps : List Str) (sp : DSp) : Prop where
  ex : ∃ f fd, DFn P w K mg base k f fd ps sp ∧ Cls K (He.ga K c) ∧ Meth K (He.ga K c) m f ∧ Binds K fd ps []
structure ICallee (P : Program) (w : World) (K : PySem.W.Frag) (mg : Str → Option Value) (base : Heap) (k : Nat) (c : Str) (ps : List Str) (sp : DSp) : Prop where
  ex : ∃ f fd, DFn P w K mg base k f fd ps sp ∧ Mk K (He.ga K c) f ∧ mg c = some (.ref (He.ga K c)) ∧ Binds K fd ps []
section
variable {X : Cx} {k : Nat} {c m : Str} {ps : List Str} {sp : DSp} {p pos apos : Pos} {e o : Expr} {es : List Expr} {ta : DTA} {to : DTE}
end
end Dl
namespace Dl
open PySem L2
def WFor (K : PySem.W.Frag) (a : Addr) (kvs : List (Str × Int)) (z : Str) : Prop := match kvs.lookup z with
  | some i => ∃ t, PySem.W.nsIn K a z = some (some (.int i t))
  | none => PySem.W.nsIn K a z = some none
structure WDic (K : PySem.W.Frag) (w : World) (mg : Str → Option Value) (x : Str) (kvs : List (Str × Int)) : Prop where
  ex : ∃ a es n, mg x = some (.ref a) ∧ KDict K w a es n ∧ ∀ z, WFor K a kvs z
section
variable {X : Cx} {x : Str} {kvs : List (Str × Int)} {i : Expr} {ty : DTE} {pos p : Pos}
end
def dicI (K : PySem.W.Frag) (a : Addr) (kvs : List (Str × Int)) : Bool := kvs.all fun q => match PySem.W.nsIn K a q.1 with
  | some (some (.int j _)) => decide (j = q.2)
  | _ => false
abbrev TabX : Type := Str × List (Str × Int)
section
variable {fx : List Fx} {fn : List He.DefD} {ts : List TabX} {K : PySem.W.Frag} {w : World}
end
end Dl
namespace Dl
open PySem PySem.Spec PyProof.Rows L2
section
variable {z TI TO i1 i2 a b : Addr}
end
def zipD (xs ys : List D) : List D := (xs.zip ys).map fun q => D.tup [q.1, q.2]
@[simp] def iZpM (t : DTA) : DTI := fun ρ G Q => t ρ G fun ds G1 => match ds with
  | [.lst xs, .tup ys] => Q (zipD xs ys) okAll G1
  | _ => False
@[simp] def iEnL (te : DTE) : DTI := fun ρ G Q => te ρ G fun d G1 => match d with
  | .lst ds => Q (enumD ds) okAll G1
  | _ => False
section
variable {X : Cx}
theorem di_enumL {e : Expr} {te : DTE} {p pos tpos : Pos} {elts : List Expr} {kk : Nat} (hg : Gl X "enumerate") (hm : X.mg "enumerate" = none) (he : DE X e te) (hs : starEach [e] X.env = [(false, eval e X.env)] := by rfl) :
    DI X (.Tuple elts kk tpos) (.Call (.Name "enumerate" p) [e] [] pos) (iEnL te) := by
  refine (pi_enum hg hm (pa_cons he pa_nil (by rw [hs]; rfl)) hs).imp fun σ H R ⟨ρ, G, q, r, h, k⟩ => ?_
  refine ⟨ρ, G, _, r, h, fun v d H1 G1 e1 r1 v1 h1 => ?_⟩
  cases d with
  | lst ds =>
    unfold RepV at v1
    obtain ⟨a, xs, rfl, ta, rl⟩ := v1
    refine ⟨a, xs, rfl, ta.sq, k _ (enumD ds) okAll H1 G1 e1 r1 (fun G2 H2 e2 g2 _ i => ⟨fun d hd => ?_, fun hi => ⟨xs, (ta.ext e2).sq, by rw [rl.length, hi, enumD_len]; exact Nat.le_refl _⟩⟩) h1⟩
    obtain ⟨x, hx, rfl⟩ := enumD_get hd
    obtain ⟨w, hw, rw'⟩ := (rl.ext e2).get hx
    refine ⟨⟨xs, w, (ta.ext e2).sq, hw⟩, fun y H3 hy => ?_⟩
    obtain ⟨T, z, rfl, hT, rfl, hz⟩ := hy
    have ez := hz xs (ta.ext e2).sq
    rw [hw] at ez
    cases ez
    obtain ⟨e3, g3, v3⟩ := new_tup g2 hT (repL_cons (int_rv (i := (i : Nat))) (repL_one rw'))
    exact ⟨e3, g3, v3⟩
  | _ => exact h1.elim
end
end Dl
namespace Dl
open PySem L2
abbrev KT := List Key
section
variable {K : PySem.W.Frag} {G : GH} {H : Hp} {k : KT}
end
section
variable {X : Cx}
end
end Dl
namespace Dl
open PySem L2
section
variable {t u : XTS} {te : XTE} {ta : XTA} {tc : XTT} {tr : XTA} {E : DEnds} {Z : DZ} {ρ : DSt} {G : GH} {Q : DK} {Ql : List D → GH → Prop}
end
end Dl
namespace Dl
open PySem PySem.Spec PyProof.Rows L2 LamX
section
variable {fx : List Fx} {fn : List He.DefD} {tq : List (He.Defn × Str)} {ex : PySem.W.Frag → Bool} {xs : List XD} {pd : List PDef} {h : Heap} {K : PySem.W.Frag}
end
end Dl
namespace Dl
open PySem PySem.Spec PyProof.Rows L2
section
variable {K : PySem.W.Frag} {G : GH} {H : Hp}
end
section
variable {X : Cx} {e o value : Expr} {c f : Str} {pos pos' : Pos} {te to tv : DTE} {p : Addr} {i : Nat}
end
structure PCallee (P : Program) (w : World) (K : PySem.W.Frag) (mg : Str → Option Value) (base : Heap) (k : Nat) (c f : Str) (sp : DSp) : Prop where
  ex : ∃ (p g : Addr) (fd : FuncData) (x : Str), DFn P w K mg base k g fd [x] sp ∧ SlX.SCls K (He.ga K c) ∧ PropOf K (He.ga K c) f p g ∧ Binds K fd [x] []
section
variable {X : Cx} {CX : CXT} {k : Nat} {C g p : Addr} {fd : FuncData} {ps : List Str} {x f m : Str} {pos apos : Pos} {e o : Expr} {es : List Expr} {E : XK} {ta : TE} {t : TA} {sp : Sp}
end
section
variable {X : Cx} {k : Nat} {c f x : Str} {pos : Pos} {e : Expr} {te : DTE} {sp : DSp}
end
structure MCalleeX (P : Program) (w : World) (K : PySem.W.Frag) (mg : Str → Option Value) (base : Heap) (k : Nat) (c m : Str) (n : Nat) (ks : List Str) (src : List (Nat × Nat)) (dv : List D) (sp : DSp) : Prop where
  ex : ∃ f fd ps, XFn P w K mg base k f fd ps sp ∧ SlX.SCls K (He.ga K c) ∧ Meth K (He.ga K c) m f ∧ ∃ (its : List Value) (dvs : List V), Vals dvs its ∧ (∀ G H, RepL K G H dv dvs) ∧
    ∀ (s : Shared) (us ws : List Value), K.In s.heap → us.length = n → ws.length = ks.length → BindsTo s fd ⟨us, ks.zip ws⟩ (ps.zip (pick src us its ws))
section
variable {X : Cx} {W : WX} {k n : Nat} {c m : Str} {ks : List Str} {src : List (Nat × Nat)} {dv : List D} {sp : DSp} {pos apos : Pos} {e o : Expr} {es : List Expr} {to : DTE} {ta tk : DTA} {kws : List Keyword} {pl : Sem Bool}
end
section
variable {X : Cx}
end
end Dl
namespace Dl
open PySem PySem.Spec PyProof.Rows L2 StX
structure VFn (P : Program) (w : World) (K : PySem.W.Frag) (mg : Str → Option Value) (base : Heap) (k : Nat) (f : Addr) (n : Nat) (ks : List Str) (src : List (Nat × Nat)) (sp : DSp) : Prop where
  go : ∀ (A : Around) (out : List Env) (st : Shared) (H : Hp) (us ws : List Value) (xs zs : List V) (Q : VK) (E : XK), Room k A → A.guards = some [] → Env0 P w K mg base A out st H → us.length = n → ws.length = ks.length → Vals xs us → Vals zs ws →
    toSp K sp (pick src xs [] zs) H Q E → codeAny (model P w) A (.call (.ref f) ⟨us, ks.zip ws⟩) (CR (L2.CX P w) out P w H st Q E) st
structure SMaker (P : Program) (w : World) (K : PySem.W.Frag) (mg : Str → Option Value) (base : Heap) (k : Nat) (c : Str) (n : Nat) (ks : List Str) (src : List (Nat × Nat)) (sp : DSp) : Prop where
  ex : ∃ f, VFn P w K mg base k f (n + 1) ks src sp ∧ Mk K (He.ga K c) f ∧ mg c = some (.ref (He.ga K c))
section
variable {X : Cx} {W : WX} {k n : Nat} {c : Str} {ks : List Str} {src : List (Nat × Nat)} {sp : DSp} {p pos : Pos} {e : Expr} {es : List Expr} {ta tk : DTA} {kws : List Keyword} {f C : Addr}
end
end Dl
namespace Dl
open PySem PySem.Spec PyProof.Rows L2
section
variable {prog : Program} {w : World} {A : Around} {E : Value → Shared → Prop} {s : Shared} {K : PySem.W.Frag} {a C g : Addr} {ox od : Obj}
end
structure QCallee (P : Program) (w : World) (K : PySem.W.Frag) (mg : Str → Option Value) (base : Heap) (k : Nat) (c m : Str) (sp : DSp) : Prop where
  ex : ∃ f fd ps, DFn P w K mg base k f fd ps sp ∧ SlX.SCls K (He.ga K c) ∧ Meth K (He.ga K c) m f ∧ Binds K fd ps []
section
variable {X : Cx} {k : Nat} {c : Str} {sp : DSp}
end
end Dl
namespace Dl
open PySem PySem.Spec PyProof.Rows L2
end Dl
namespace Dl
open PySem PySem.Spec PyProof.Rows L2
section
variable {X : Cx} {e o value : Expr} {c f : Str} {pos pos' : Pos} {te to tv : DTE} {i : Nat}
end
end Dl
namespace Dl
open PySem PySem.Spec PyProof.Rows L2
section
variable {P : Program} {w : World} {K : PySem.W.Frag} {mg : Str → Option Value} {base : Heap} {k n : Nat} {c m qual : Str} {params : Arguments} {body : List Stmt} {scope : Scope} {fd : FuncData} {ps ks : List Str} {src : List (Nat × Nat)} {sp : DSp}
end
end Dl
namespace Dl
open PySem PySem.Spec PyProof.Rows L2
end Dl
namespace Dl
open PySem L2
section
variable {ρ : DSt} {G : GH} {Q : DK} {c : Str} {i n m : Nat} {te to : DTE} {ta tk : DTA} {sp : DSp} {src : List (Nat × Nat)} {dv : List D} {Z : DZ}
end
end Dl
namespace Dl
open PySem L2
end Dl
namespace Dl
open PySem L2
abbrev KT2 := List Key
section
variable {K : PySem.W.Frag} {G : GH} {H : Hp} {k : KT2}
end
section
variable {X : Cx}
end
end Dl
namespace Dl
open PySem L2 PyProof.Rows
section
variable {X : Cx}
end
def dNewK : DTE := fun _ G Q => ∀ p, G p = none → Q (.ref p) (updG G p (.dct []))
section
variable {X : Cx}
theorem de_newK {pos : Pos} : DE X (.Dict [] [] pos) dNewK := by
  refine (pe_dnewK (X := X)).imp fun σ H Q ⟨ρ, G, q, r, h, k⟩ p hp => ?_
  have e : Ext G H (updG G p (.dct [])) (upd H p (.dK [])) := Ext.newG hp
  exact k _ _ _ _ e (r.ext e (r.gok.put e ⟨[], upd_same, rfl, repL_nil⟩)) (by unfold RepV; rfl) (h p (r.gok.fresh hp))
end
section
variable {X : Cx}
end
section
variable {X : Cx}
end
end Dl
namespace Dl
open PySem L2 PyProof.Rows
abbrev RoomE := L2H.RoomH
structure EFn (P : Program) (w : World) (K : PySem.W.Frag) (mg : Str → Option Value) (base : Heap) (k : Nat) (f : Addr) (fd : FuncData) (x : Str) (rE : Addr → Str → Addr → DTS) (n : Nat) : Prop where
  go : ∀ (A : Around) (out : List Env) (st : Shared) (H : Hp) (ar : Args) (u : Value) (v : V) (a : Addr) (oe : Obj) (c : Str) (d : Addr) (ns : List Str) (vs : List D) (G : GH) (q : DK) (Q : VK),
    RoomE k A → A.guards = some [] → A.handled = some (.ref a) → Zc (.ref (He.ga K c)) (some d) oe → (∃ vs, oe.data = .fields vs) → L2H.PinOk out H st (a, oe) → Env0 P w K mg base A out st H → BindsTo st fd ar [(x, u)] → RelV v u →
    RepV K G H (.exh a c d ns vs) v → GOk K G H → rE a c d { nx := fun _ G' => q .non G', rt := q } (startD n [.exh a c d ns vs]) G → (∀ v d H' G', Ext G H G' H' → GOk K G' H' → RepV K G' H' d v → q d G' → Q v H') →
    codeAny (model P w) A (.call (.ref f) ar) (CR CX0 out P w H st Q E0) st
structure ECallee (P : Program) (w : World) (K : PySem.W.Frag) (mg : Str → Option Value) (base : Heap) (k : Nat) (x : Str) (rE : Addr → Str → Addr → DTS) (n : Nat) : Prop where
  ex : ∃ f fd p, EFn P w K mg base k f fd p rE n ∧ mg x = some (.ref f) ∧ PySem.W.keepIn K (.ref f) = true ∧ Binds K fd [p] []
end Dl
namespace Dl
open PySem L2
section
variable {E : DEnds} {ρ : DSt} {G : GH} {Q : DK} {te ta tb : DTE} {tl : DTA} {tc tu tv : DTT} {Qb : Bool → GH → Prop}
theorem iNewK (h : ∀ p, G p = none → Q (.ref p) (updG G p (.dct []))) : dNewK ρ G Q := h
end
end Dl
namespace Dl
open PySem L2
def dGet2 (td ty tx : DTE) : DTE := fun ρ G Q => td ρ G fun x G1 => ∃ a kvs, x = .ref a ∧ G1 a = some (.dct kvs) ∧ ty ρ G1 fun y G2 => tx ρ G2 fun z G3 => ∃ kvs2 k, G3 a = some (.dct kvs2) ∧ keyD y = some k ∧ Q ((getK kvs2 k).getD z) G3
def kyD : Key → D
  | .inl i => .int i
  | .inr s => .str s
section
variable {X : Cx}
theorem de_get2 {o e f : Expr} {td ty tx : DTE} {apos cpos : Pos} (hu : X.A.units + 1 < cLine) (ho : DE X o td) (he : DE X e ty) (hf : DE X f tx) (m : M2 X o "get" apos e f cpos := by exact ⟨rfl, rfl, rfl, rfl⟩) :
    DE X (.Call (.Attribute o "get" apos) [e, f] [] cpos) (dGet2 td ty tx) := by
  refine (pe_dget2 hu ho he hf m).imp fun σ H Q ⟨ρ, G, q, r, h, k⟩ => ?_
  refine ⟨ρ, G, _, r, h, fun x dx H1 G1 e1 r1 v1 h1 => ?_⟩
  obtain ⟨a, kvs, rfl, hg, h1⟩ := h1
  cases rv_ref v1
  obtain ⟨ws, w1, _, _⟩ := r1.gok a _ hg
  refine ⟨a, rfl, .inl ⟨ws, .of w1⟩, ρ, G1, _, r1, h1, fun y dy H2 G2 e2 r2 v2 h2 => ?_⟩
  refine ⟨ρ, G2, _, r2, h2, fun z dz H3 G3 e3 r3 v3 h3 => ?_⟩
  obtain ⟨kvs2, kk, hg2, hk, h3⟩ := h3
  obtain ⟨ws2, w2, w3, w4⟩ := r3.gok a _ hg2
  cases key_rep (v2.ext e3) hk
  refine ⟨valV ws2 kk, DGet.k w2, ?_⟩
  have gr := getK_rep (k := kk) w3 w4
  cases hd : getK kvs2 kk with
  | none =>
    rw [hd] at gr h3
    rw [gr]
    exact k _ _ H3 G3 ((e1.trans e2).trans e3) r3 v3 h3
  | some d =>
    rw [hd] at gr h3
    obtain ⟨w, e4, rw'⟩ := gr
    rw [e4]
    exact k w d H3 G3 ((e1.trans e2).trans e3) r3 rw' h3
end
end Dl
namespace Dl
open PySem L2
end Dl
namespace Dl
open PySem L2
section
variable {X : Cx} {W : WX}
end
end Dl
namespace Dl
open PySem L2 LamX
inductive OT | nil | node (m : Nat) (o : Obj) (l r : OT)
end Dl
namespace Dl
open PySem PySem.Spec PyProof.Rows L2 LamX
def dicsOf (ts : List TabX) (K : PySem.W.Frag) : List (Option (List (Option (Str × Int)))) := ts.map fun t => match dicI K (He.ga K t.1) t.2 with
  | true => He.dicW K (He.ga K t.1)
  | false => none
def dicsV (ts : List TabX) (w : World) : List (Option (List (Option (Str × Int)))) := ts.map fun t => some (He.keysIn w.params (t.2.map (·.1)))
structure SaysET (fx : List Fx) (fn : List He.DefD) (tf : List He.Defn) (ex : PySem.W.Frag → Bool) (xs : List XD) (pd : List PDef) (ts : List TabX) (w : World) (h : Heap) (K : PySem.W.Frag) : Prop extends SaysE fx fn tf ex xs pd h K where
  dics : dicsOf ts K = dicsV ts w
end Dl
namespace Dl
open PySem L2
section
variable {X : Cx}
end
end Dl
namespace Dl
open PySem L2 PySem.W PySem.SeqAt PyProof.Rows
def tupI (ks : List Int) : PyData := .tuple (ks.map .int)
def TI (h : Heap) (v : Value) (ks : List Int) : Prop := ∃ as, Reads h v (tupI ks) as
section
variable {M : Model} {A : Around} {E : Value → Shared → Prop} {s : Shared}
end
section
variable {prog : Program} {w : World} {A : Around} {E : Value → Shared → Prop} {s : Shared}
end
section
variable {P : Program} {w : World} {A : Around} {E : Value → Shared → Prop} {s : Shared}
end
section
variable {K : PySem.W.Frag} {G : GH} {H : Hp}
end
section
variable {X : Cx}
end
end Dl
namespace Dl
open PySem L2
end Dl
namespace Dl
open PySem PySem.Spec PyProof.Rows L2 RZ
section
variable {X : Cx}
end
end Dl
namespace Dl
open PySem L2
end Dl
namespace Dl
open PySem L2
section
variable {X : Cx}
def lockE (a : Addr) (kvs : List (Key × D)) (u : HO) (E : DEnds) : DEnds :=
  { nx := fun ρ G => G a = some (.raw u) ∧ E.nx ρ (updG G a (.dct kvs)), rt := fun d G => G a = some (.raw u) ∧ E.rt d (updG G a (.dct kvs)),
    bk := fun ρ G => G a = some (.raw u) ∧ E.bk ρ (updG G a (.dct kvs)), ct := fun ρ G => G a = some (.raw u) ∧ E.ct ρ (updG G a (.dct kvs)) }
def dForI (x : Nat) (g : DTG) (tb : DTS) : DTS := fun E ρ G => ∃ a kvs, sl ρ x = some (.ref a) ∧ G a = some (.dct kvs) ∧
  ∀ u : HO, dForGo (fun G => G a = some (.raw u)) g tb (kvs.map fun p => .tup [kyD p.1, p.2]) (lockE a kvs u E) ρ (updG G a (.raw u))
theorem ds_forI {i : Nat} {y : Str} {py apos cpos tpos : Pos} {elts : List Expr} {kk : Nat} {body : List Stmt} {g : DTG} {tb : DTS} {pos : Pos} (hp : PassesOwn (model X.prog X.w) X.A X.env X.xe) (hc : X.calm = true)
    (hy : X.N[i]? = some y) (hvis : Vis X.env.scope y) (hg : DG X (.Tuple elts kk tpos) g) (hb : DSs X body tb) (hd : (y == ("__debug__" : Str)) = false := by decide) (hcd : (y == ("__classdict__" : Str)) = false := by decide)
    (hbase : attributeBase (.Name y py) "items" X.env (eval (.Name y py) X.env) = eval (.Name y py) X.env := by rfl) (hline : (apos.endLine == cpos.line) = true := by rfl)
    (hs : ∀ x, foldedSetIterable (.Call (.Attribute (.Name y py) "items" apos) [] [] cpos) X.env x = pure x := by intro _; rfl) :
    DS X (.For (.Tuple elts kk tpos) (.Call (.Attribute (.Name y py) "items" apos) [] [] cpos) body [] pos) (dForI i g tb) := by
  refine (ps_lock (ps_for hp hc (pi_items (pe_var hy hvis hd hcd) hbase hline) hg hb hs)).imp fun Dv σ H ⟨ρ, G, E, r, h, k1, k2, k3, k4⟩ => ?_
  obtain ⟨a, kvs, hxv, hga, h⟩ := h
  obtain ⟨ws, w1, w2, w3⟩ := r.gok a _ hga
  refine ⟨a, .dK ws, w1, trivial, fun od => ?_⟩
  have e0 : Ext G H (updG G a (.raw (.frz od (.dK ws)))) (upd H a (.frz od (.dK ws))) := Ext.write hga
  have r0 : DRel X.K σ (upd H a (.frz od (.dK ws))) ρ (updG G a (.raw (.frz od (.dK ws)))) := r.ext e0 (r.gok.put e0 upd_same)
  have h2 := h (.frz od (.dK ws))
  have un : ∀ {H' : Hp} {G' : GH}, Ext (updG G a (.raw (.frz od (.dK ws)))) (upd H a (.frz od (.dK ws))) G' H' → GOk X.K G' H' → G' a = some (.raw (.frz od (.dK ws))) →
      H' a = some (.frz od (.dK ws)) ∧ Ext G H (updG G' a (.dct kvs)) (upd H' a (.dK ws)) ∧ Ext G' H' (updG G' a (.dct kvs)) (upd H' a (.dK ws)) ∧ GOk X.K (updG G' a (.dct kvs)) (upd H' a (.dK ws)) := fun {H' G'} e' g' h' => by
    have e3 : Ext G' H' (updG G' a (.dct kvs)) (upd H' a (.dK ws)) := Ext.write h'
    have e4 := (e0.trans e').trans e3
    exact ⟨g' a _ h', e4, e3, g'.put e3 ⟨ws, upd_same, w2, w3.ext e4⟩⟩
  obtain ⟨v, e1, e2⟩ := r.sl hxv
  cases rv_ref e2
  have ln : ws.length = kvs.length := by simpa using congrArg List.length w2
  have it : DIt X.K (Iti a od ws) (kvs.map fun p => D.tup [kyD p.1, p.2]) (fun G => G a = some (.raw (.frz od (.dK ws)))) (updG G a (.raw (.frz od (.dK ws)))) (upd H a (.frz od (.dK ws))) := by
    intro G2 H2 e2 g2 okk i
    have hH : H2 a = some (.frz od (.dK ws)) := g2 a _ okk
    refine ⟨fun d hd2 => ⟨⟨hH, ?_⟩, fun x H3 hx => ?_⟩, fun hi => ⟨hH, ?_⟩⟩
    · have := (List.getElem?_eq_some_iff.mp hd2).1
      rw [List.length_map] at this; omega
    · obtain ⟨T, kk2, vv, h5, rfl, hT, rfl⟩ := hx
      rw [List.getElem?_map] at hd2
      cases h7 : kvs[i]? with
      | none => rw [h7] at hd2; cases hd2
      | some p =>
        rw [h7] at hd2
        simp only [Option.map_some, Option.some.injEq] at hd2
        subst hd2
        have h6 : (ws.map (·.1))[i]? = some kk2 := by rw [List.getElem?_map, h5]; rfl
        rw [w2, List.getElem?_map, h7] at h6
        simp only [Option.map_some, Option.some.injEq] at h6
        subst h6
        have hv : (kvs.map (·.2))[i]? = some p.2 := by rw [List.getElem?_map, h7]; rfl
        obtain ⟨w, hw, rw'⟩ := (w3.ext (e0.trans e2)).get hv
        rw [List.getElem?_map, h5] at hw
        simp only [Option.map_some, Option.some.injEq] at hw
        subst hw
        have rk : RepV X.K G2 H2 (kyD p.1) (kV p.1) := by cases hk : p.1 <;> (unfold kyD RepV; rfl)
        obtain ⟨e3, g3, v3⟩ := new_tup g2 hT (repL_cons rk (repL_one rw'))
        exact ⟨e3, g3, v3⟩
    · rw [hi, List.length_map]; omega
  refine ⟨_, e1, a, od, ws, rfl, upd_same, ?_⟩
  generalize hit : (kvs.map fun p => D.tup [kyD p.1, p.2]) = items at h2 it
  refine ⟨fun i m σ2 H2 => m = items.length - i ∧ i ≤ items.length ∧ ∃ ρ2 G2, Ext (updG G a (.raw (.frz od (.dK ws)))) (upd H a (.frz od (.dK ws))) G2 H2 ∧ DRel X.K σ2 H2 ρ2 G2 ∧ dForGo (fun G => G a = some (.raw (.frz od (.dK ws)))) g tb (items.drop i) (lockE a kvs (.frz od (.dK ws)) E) ρ2 G2, ⟨items.length, rfl, Nat.zero_le _, ρ, _, Ext.refl _ _, r0, h2⟩, ?_⟩
  rintro i m σ2 H2 ⟨rfl, hi, ρ2, G2, e2, r2, h2⟩
  by_cases hlt : i < items.length
  · rw [List.drop_eq_getElem_cons hlt] at h2
    unfold dForGo at h2
    obtain ⟨ho, h2⟩ := h2
    obtain ⟨aa, b⟩ := it G2 H2 e2 r2.gok ho i
    obtain ⟨go, yl⟩ := aa items[i] (List.getElem?_eq_getElem hlt)
    refine .inr ⟨go, fun σ3 H3 => ∃ ρ3 G3, Ext (updG G a (.raw (.frz od (.dK ws)))) (upd H a (.frz od (.dK ws))) G3 H3 ∧ DRel X.K σ3 H3 ρ3 G3 ∧ dForGo (fun G => G a = some (.raw (.frz od (.dK ws)))) g tb (items.drop (i + 1)) (lockE a kvs (.frz od (.dK ws)) E) ρ3 G3, fun σ3 H3 ⟨ρ3, G3, q⟩ => ⟨items.length - (i + 1), by omega, rfl, hlt, ρ3, G3, q⟩, fun x H3 hy => ?_⟩
    obtain ⟨e3, g3, rx⟩ := yl x H3 hy
    refine ⟨ρ2, G2, items[i], _, r2.ext e3 g3, rx, h2, fun σ4 ρ4 H4 G4 e4 r4 h4 => ?_⟩
    have e5 := (e2.trans e3).trans e4
    refine ⟨ρ4, G4, _, r4, h4, ?_, ?_, ?_, ?_⟩
    · exact fun σ' ρ' H' G' e' r' h' => ⟨ρ', G', e5.trans e', r', h'⟩
    · intro v d H' G' e' g' rv' h'
      obtain ⟨u1, u2, u3, u4⟩ := un (e5.trans e') g' h'.1
      exact ⟨u1, k2 v d _ _ u2 u4 (rv'.ext u3) h'.2⟩
    · intro σ' ρ' H' G' e' r' h'
      obtain ⟨u1, u2, u3, u4⟩ := un (e5.trans e') r'.gok h'.1
      exact ⟨u1, k1 σ' ρ' _ _ u2 (r'.ext u3 u4) h'.2⟩
    · exact fun σ' ρ' H' G' e' r' h' => ⟨ρ', G', e5.trans e', r', h'⟩
  · have e : i = items.length := by omega
    subst e
    rw [List.drop_length] at h2
    unfold dForGo at h2
    obtain ⟨u1, u2, u3, u4⟩ := un e2 r2.gok h2.2.1
    exact .inl ⟨(it G2 H2 e2 r2.gok h2.1 _).2 rfl, u1, k1 σ2 ρ2 _ _ u2 (r2.ext u3 u4) h2.2.2⟩
end
end Dl
namespace Dl
open PySem PySem.Spec PyProof.Rows L2
section
variable {P : Program} {w : World} {K : PySem.W.Frag} {d : Addr} {o : Obj} {es : Array DictEntry} {ep : Nat}
end
section
variable {X : Cx} {e : Expr} {td : TE} {apos cpos : Pos}
end
end Dl
namespace Dl
open PySem L2
section
variable {X : Cx}
end
end Dl
namespace Dl
open PySem PySem.Spec PyProof.Rows L2
section
variable {z TI TO i1 i2 a b : Addr}
end
section
variable {X : Cx}
end
section
variable {X : Cx}
end
end Dl
namespace Dl
open PySem L2
section
variable {X : Cx}
end
end Dl
namespace Dl
open PySem L2
abbrev rMulW : DR2 := rInt CMulW fun i j => .int (i * j)
abbrev rFdivW : DR2 := rInt CDivW fun i j => .int (i / j)
section
variable {X : Cx}
theorem o_mulW : DOp X (binaryOp .Mult) rMulW := o_int op_mulW
theorem o_fdivW : DOp X (binaryOp .FloorDiv) rFdivW := o_int op_fdivW
end
end Dl
namespace Dl
open PySem L2
variable {ρ : DSt} {G : GH} {Q : DK}
theorem iForI {x : Nat} {g : DTG} {tb : DTS} {E : DEnds} (h : ∃ a kvs, sl ρ x = some (.ref a) ∧ G a = some (.dct kvs) ∧
  ∀ u : HO, dForGo (fun G => G a = some (.raw u)) g tb (kvs.map fun p => .tup [kyD p.1, p.2]) (lockE a kvs u E) ρ (updG G a (.raw u))) : dForI x g tb E ρ G := h
end Dl
namespace Dl
open PySem L2 PyProof.Rows
def dDcGo (ok : GH → Prop) (ct : CT) (tt : DTT) (tk tv : DTE) (ρ : DSt) (p : Addr) : List D → GH → DK → Prop
  | [], G, Q => ok G ∧ Q (.ref p) G
  | x :: xs, G, Q => ok G ∧ match bindC ct x ρ with
    | none => False
    | some ρ2 => tt ρ2 G fun b G3 => if b = true then tk ρ2 G3 fun y G4 => tv ρ2 G4 fun z G5 => (match G5 p with
        | some (.dct kvs) => keyP y fun k => kvs.length < sizeLine ∧ dDcGo ok ct tt tk tv ρ p xs (updG G5 p (.dct (putD kvs k z))) Q
        | _ => False) else dDcGo ok ct tt tk tv ρ p xs G3 Q
def dDc (wi : DTI) (ct : CT) (tt : DTT) (tk tv : DTE) (vs : List Nat) : DTE := fun ρ G Q => wi ρ G fun items ok G1 => ∀ p, G1 p = none → dDcGo ok ct tt tk tv (wipeD ρ vs) p items (updG G1 p (.dct [])) Q
theorem up_dc {K : PySem.W.Frag} {wi : DTI} {ct : CT} {tt : DTT} {tk tv : DTE} {vs : List Nat} (hi : ∀ i ∈ ct.slots, i ∈ vs) {σ : L2.St} {H : Hp} {Q : VK} (h : up K (dDc wi ct tt tk tv vs) σ H Q) :
    tDc (upI K wi) (ct.gV K) (upT K tt) (up K tk) (up K tv) vs σ H Q := by
  obtain ⟨ρ, G, q, r, h, k⟩ := h
  refine ⟨ρ, G, _, r, h, fun J items ok H1 G1 e1 r1 it h1 => fun p hp => ?_⟩
  have gp : G1 p = none := r1.gok.fresh hp
  have e2 : Ext G1 H1 (updG G1 p (.dct [])) (upd H1 p (.dK [])) := Ext.newG hp
  have g2 : GOk K (updG G1 p (.dct [])) (upd H1 p (.dK [])) := r1.gok.put e2 ⟨[], upd_same, rfl, repL_nil⟩
  have r2 : DRel K σ (upd H1 p (.dK [])) ρ (updG G1 p (.dct [])) := r1.ext e2 g2
  have h2 := h1 p gp
  refine ⟨fun i m H2 => m = items.length - i ∧ i ≤ items.length ∧ ∃ G2, Ext (updG G1 p (.dct [])) (upd H1 p (.dK [])) G2 H2 ∧ GOk K G2 H2 ∧ dDcGo ok ct tt tk tv (wipeD ρ vs) p (items.drop i) G2 q, ⟨items.length, rfl, Nat.zero_le _, _, Ext.refl _ _, g2, h2⟩, ?_⟩
  rintro i m H2 ⟨rfl, hi2, G2, e3, g3, h3⟩
  have r3 : DRel K σ H2 ρ G2 := r2.ext e3 g3
  have e13 : Ext G1 H1 G2 H2 := e2.trans e3
  by_cases hlt : i < items.length
  · rw [List.drop_eq_getElem_cons hlt] at h3
    unfold dDcGo at h3
    obtain ⟨ho, h3⟩ := h3
    obtain ⟨a, b⟩ := it G2 H2 e13 g3 ho i
    obtain ⟨go, yl⟩ := a items[i] (List.getElem?_eq_getElem hlt)
    refine .inr ⟨go, fun H3 => ∃ G3, Ext (updG G1 p (.dct [])) (upd H1 p (.dK [])) G3 H3 ∧ GOk K G3 H3 ∧ dDcGo ok ct tt tk tv (wipeD ρ vs) p (items.drop (i + 1)) G3 q, fun H3 ⟨G3, q3⟩ => ⟨items.length - (i + 1), by omega, rfl, hlt, G3, q3⟩, fun x H3 hy => ?_⟩
    obtain ⟨e4, g4, rx⟩ := yl x H3 hy
    have r4 : DRel K (wipe σ vs) H3 (wipeD ρ vs) G2 := (r3.ext e4 g4).wipe vs
    cases eb : bindC ct items[i] (wipeD ρ vs) with
    | none => rw [eb] at h3; exact h3.elim
    | some ρ2 =>
      rw [eb] at h3
      refine bindC_ok hi r4 rx eb fun σ5 r5 w5 => ⟨by rw [w5, wipe_wipe], ρ2, G2, _, r5, h3, fun b H6 G6 e6 r6 h6 => ?_⟩
      have e36 := (e3.trans e4).trans e6
      cases b with
      | false => exact ⟨G6, e36, r6.gok, h6⟩
      | true =>
        refine ⟨ρ2, G6, _, r6, h6, fun y dy H7 G7 e7 r7 v7 h7 => ?_⟩
        refine ⟨ρ2, G7, _, r7, h7, fun z dz H8 G8 e8 r8 v8 h8 => ?_⟩
        cases hg : G8 p with
        | none => rw [hg] at h8; exact h8.elim
        | some o =>
          rw [hg] at h8
          cases o with
          | dct kvs =>
            obtain ⟨kk, hk, hz, h9⟩ := keyP_of h8
            obtain ⟨ws, hx, w2, w3⟩ := r8.gok p _ hg
            have hl : ws.length = kvs.length := by simpa using congrArg List.length w2
            have e9 : Ext G8 H8 (updG G8 p (.dct (putD kvs kk dz))) (upd H8 p (.dK (putK ws kk z))) := Ext.write hg
            obtain ⟨p1, p2⟩ := putD_rep (k := kk) v8 w2 w3
            refine ⟨ws, kk, key_rep v7 hk, hx, by omega, _, ((e36.trans e7).trans e8).trans e9, r8.gok.put e9 ⟨_, upd_same, p1, p2.ext e9⟩, h9⟩
          | lst _ => exact h8.elim
          | raw _ => exact h8.elim
          | ins _ _ => exact h8.elim
          | dtp _ => exact h8.elim
          | tab _ => exact h8.elim
          | slt _ _ => exact h8.elim
          | dny _ _ _ => exact h8.elim
  · have e : i = items.length := by omega
    subst e
    rw [List.drop_length] at h3
    unfold dDcGo at h3
    refine .inl ⟨(it G2 H2 e13 g3 h3.1 _).2 rfl, k _ (.ref p) H2 G2 (e1.trans e13) (r3) (by unfold RepV; rfl) h3.2⟩
section
variable {X : Cx}
theorem de_dc {kx vx tg iter : Expr} {ifs : List Expr} {scope : Scope} {own : List (Str × Nat)} {pos : Pos} {wi : DTI} {ct : CT} {tt : DTT} {tk tv : DTE} (hc : X.calm = true) (hN : X.N.Nodup) (hi : DI X tg iter wi) (ok : BlkOk X.N X.env.scope scope own)
    (hv : ∀ i ∈ ct.slots, i ∈ own.map (·.2))
    (hg : ∀ (s : Shared) (H : Hp) (C : Addr) (cl : List (Str × Addr)) (fp : List Addr), PG (X.blk s H scope (compEnvC scope cl C X.env) fp) tg (ct.gV X.K)) (ht : ∀ (s : Shared) (H : Hp) (C : Addr) (cl : List (Str × Addr)) (fp : List Addr), DTs (X.blk s H scope (compEnvC scope cl C X.env) fp) ifs tt)
    (hk : ∀ (s : Shared) (H : Hp) (C : Addr) (cl : List (Str × Addr)) (fp : List Addr), DE (X.blk s H scope (compEnvC scope cl C X.env) fp) kx tk)
    (he : ∀ (s : Shared) (H : Hp) (C : Addr) (cl : List (Str × Addr)) (fp : List Addr), DE (X.blk s H scope (compEnvC scope cl C X.env) fp) vx tv) (hs : ∀ x, foldedSetIterable iter X.env x = pure x := by intro _; rfl) :
    DE X (.DictComp kx vx [⟨tg, iter, ifs, 0⟩] scope pos) (dDc wi ct tt tk tv (own.map (·.2))) :=
  (pe_dc hc hN hi ok hg ht hk he hs).imp fun _ _ _ h => up_dc hv h
theorem iDc {wi : DTI} {ct : CT} {tt : DTT} {tk tv : DTE} {vs : List Nat} {ρ : DSt} {G : GH} {Q : DK} (h : wi ρ G fun items ok G1 => ∀ p, G1 p = none → dDcGo ok ct tt tk tv (wipeD ρ vs) p items (updG G1 p (.dct [])) Q) : dDc wi ct tt tk tv vs ρ G Q := h
end
end Dl
namespace Dl
open PySem L2 PyProof.Rows
def dDcI (x : Nat) (ct : CT) (tt : DTT) (tk tv : DTE) (vs : List Nat) : DTE := fun ρ G Q => ∃ a kvs, sl ρ x = some (.ref a) ∧ G a = some (.dct kvs) ∧
  ∀ u : HO, dDc (fun _ G' P => G' = updG G a (.raw u) ∧ P (kvs.map fun p => D.tup [kyD p.1, p.2]) (fun G => G a = some (.raw u)) G') ct tt tk tv vs ρ (updG G a (.raw u)) fun d G' => G' a = some (.raw u) ∧ Q d (updG G' a (.dct kvs))
section
variable {X : Cx}
theorem de_dcI {i : Nat} {y : Str} {py apos cpos tpos : Pos} {elts : List Expr} {kk0 : Nat} {kx vx : Expr} {ifs : List Expr} {scope : Scope} {own : List (Str × Nat)} {pos : Pos} {ct : CT} {tt : DTT} {tk tv : DTE} (hc : X.calm = true) (hN : X.N.Nodup)
    (hy : X.N[i]? = some y) (hvis : Vis X.env.scope y) (ok : BlkOk X.N X.env.scope scope own)
    (hv : ∀ i ∈ ct.slots, i ∈ own.map (·.2))
    (hg : ∀ (s : Shared) (H : Hp) (C : Addr) (cl : List (Str × Addr)) (fp : List Addr), PG (X.blk s H scope (compEnvC scope cl C X.env) fp) (.Tuple elts kk0 tpos) (ct.gV X.K)) (ht : ∀ (s : Shared) (H : Hp) (C : Addr) (cl : List (Str × Addr)) (fp : List Addr), DTs (X.blk s H scope (compEnvC scope cl C X.env) fp) ifs tt)
    (hk : ∀ (s : Shared) (H : Hp) (C : Addr) (cl : List (Str × Addr)) (fp : List Addr), DE (X.blk s H scope (compEnvC scope cl C X.env) fp) kx tk)
    (he : ∀ (s : Shared) (H : Hp) (C : Addr) (cl : List (Str × Addr)) (fp : List Addr), DE (X.blk s H scope (compEnvC scope cl C X.env) fp) vx tv) (hd : (y == ("__debug__" : Str)) = false := by decide) (hcd : (y == ("__classdict__" : Str)) = false := by decide)
    (hbase : attributeBase (.Name y py) "items" X.env (eval (.Name y py) X.env) = eval (.Name y py) X.env := by rfl) (hline : (apos.endLine == cpos.line) = true := by rfl)
    (hs : ∀ x, foldedSetIterable (.Call (.Attribute (.Name y py) "items" apos) [] [] cpos) X.env x = pure x := by intro _; rfl) :
    DE X (.DictComp kx vx [⟨.Tuple elts kk0 tpos, .Call (.Attribute (.Name y py) "items" apos) [] [] cpos, ifs, 0⟩] scope pos) (dDcI i ct tt tk tv (own.map (·.2))) := by
  refine (pe_lock (pe_dc (tt := upT X.K tt) (tk := up X.K tk) (tv := up X.K tv) hc hN (pi_items (pe_var hy hvis hd hcd) hbase hline) ok hg ht hk he hs)).imp fun σ H Q ⟨ρ, G, q, r, h, k⟩ => ?_
  obtain ⟨a, kvs, hxv, hga, h⟩ := h
  obtain ⟨ws, w1, w2, w3⟩ := r.gok a _ hga
  refine ⟨a, .dK ws, w1, trivial, fun od => ?_⟩
  have e0 : Ext G H (updG G a (.raw (.frz od (.dK ws)))) (upd H a (.frz od (.dK ws))) := Ext.write hga
  have r0 : DRel X.K σ (upd H a (.frz od (.dK ws))) ρ (updG G a (.raw (.frz od (.dK ws)))) := r.ext e0 (r.gok.put e0 upd_same)
  have h2 := h (.frz od (.dK ws))
  have z := up_dc (K := X.K) hv (Q := fun v H' => H' a = some (.frz od (.dK ws)) ∧ Q v (upd H' a (.dK ws))) ⟨ρ, _, _, r0, h2, fun v d H' G' e' r' v' h' => by
    obtain ⟨h3, h4⟩ := h'
    have hH : H' a = some (.frz od (.dK ws)) := r'.gok a _ h3
    have e3 : Ext G' H' (updG G' a (.dct kvs)) (upd H' a (.dK ws)) := Ext.write h3
    have e4 := (e0.trans e').trans e3
    exact ⟨hH, k v d _ _ e4 (r'.ext e3 (r'.gok.put e3 ⟨ws, upd_same, w2, w3.ext e4⟩)) (v'.ext e3) h4⟩⟩
  unfold tDc at z ⊢
  obtain ⟨ρ', G', q', r', ⟨hG, hq'⟩, k'⟩ := z
  subst hG
  obtain ⟨v, e1, e2⟩ := r.sl hxv
  cases rv_ref e2
  refine ⟨_, e1, a, od, ws, rfl, upd_same, k' _ _ _ _ _ (Ext.refl _ _) r' (fun G2 H2 e2 g2 okk i => ?_) hq'⟩
  have hH : H2 a = some (.frz od (.dK ws)) := g2 a _ okk
  have ln : ws.length = kvs.length := by simpa using congrArg List.length w2
  refine ⟨fun d hd2 => ⟨⟨hH, ?_⟩, fun x H3 hx => ?_⟩, fun hi => ⟨hH, ?_⟩⟩
  · have := (List.getElem?_eq_some_iff.mp hd2).1
    rw [List.length_map] at this; omega
  · obtain ⟨T, kk2, vv, h5, rfl, hT, rfl⟩ := hx
    rw [List.getElem?_map] at hd2
    cases h7 : kvs[i]? with
    | none => rw [h7] at hd2; cases hd2
    | some p =>
      rw [h7] at hd2
      simp only [Option.map_some, Option.some.injEq] at hd2
      subst hd2
      have h6 : (ws.map (·.1))[i]? = some kk2 := by rw [List.getElem?_map, h5]; rfl
      rw [w2, List.getElem?_map, h7] at h6
      simp only [Option.map_some, Option.some.injEq] at h6
      subst h6
      have hv : (kvs.map (·.2))[i]? = some p.2 := by rw [List.getElem?_map, h7]; rfl
      obtain ⟨w, hw, rw'⟩ := (w3.ext (e0.trans e2)).get hv
      rw [List.getElem?_map, h5] at hw
      simp only [Option.map_some, Option.some.injEq] at hw
      subst hw
      have rk : RepV X.K G2 H2 (kyD p.1) (kV p.1) := by cases hk : p.1 <;> (unfold kyD RepV; rfl)
      obtain ⟨e3, g3, v3⟩ := new_tup g2 hT (repL_cons rk (repL_one rw'))
      exact ⟨e3, g3, v3⟩
  · rw [hi, List.length_map]; omega
end
theorem iDcI {x : Nat} {ct : CT} {tt : DTT} {tk tv : DTE} {vs : List Nat} {ρ : DSt} {G : GH} {Q : DK} {a : Addr} {kvs : List (Key × D)} (h1 : sl ρ x = some (.ref a)) (h2 : G a = some (.dct kvs))
    (h : ∀ u : HO, ∀ p, updG G a (.raw u) p = none → dDcGo (fun G => G a = some (.raw u)) ct tt tk tv (wipeD ρ vs) p (kvs.map fun p => D.tup [kyD p.1, p.2]) (updG (updG G a (.raw u)) p (.dct [])) fun d G' => G' a = some (.raw u) ∧ Q d (updG G' a (.dct kvs))) : dDcI x ct tt tk tv vs ρ G Q :=
  ⟨a, kvs, h1, h2, fun u => ⟨rfl, h u⟩⟩
end Dl
namespace SrtO
open PySem PySem.Calls PyProof.Rows
section
variable {prog : Program} {w : World} {A : Around} {E : Value → Shared → Prop} {s : Shared}
theorem sorted_col {r : Addr} {ltv : Heap → Value → Value → Bool} {P : Heap → List Value → Prop} {Q : Value → Shared → Prop} (O : ∀ h, Swo (ltv h))
    (hcol : ∀ {R : List Value → Shared → Prop}, (∀ (h1 : Heap) (tk : Nat) (vs : List Value), (∀ b o, s.heap.get? b = some o → h1.get? b = some o) → P h1 vs → vs.length ≤ sizeLine → R vs { s with heap := h1, toks := tk }) → wpAny (model prog w) A.in1 (collect (.ref r)) R E s)
    (hS : ∀ (h1 : Heap) (vs : List Value), P h1 vs → 2 ≤ vs.length → ∀ (h2 : Heap) (a : Addr) (tk : Nat), h2.get? a = some (seqObj "list" vs.toArray 0) → (∀ b o, h1.get? b = some o → b ≠ a ∧ h2.get? b = some o) → SortableO prog w A.in1.in1 { s with heap := h2, toks := tk } a vs (ltv h1))
    (h : ∀ (h1 h2 : Heap) (vs out : List Value) (tk c : Nat), (∀ b o, s.heap.get? b = some o → h1.get? b = some o) → P h1 vs → vs.length ≤ sizeLine → Srtd (ltv h1) out → Stb (ltv h1) out vs → (∀ b o, h1.get? b = some o → h2.get? b = some o) → h2.get? h1.objs.size = some (seqObj "list" out.toArray c) → Q (.ref h1.objs.size) { s with heap := h2, toks := tk }) :
    wpAny (model prog w) A (call (.builtin "sorted") [.ref r]) Q E s := by
  refine call_function_entry kind_sorted plain_sorted entry_sorted (args_sorted1 _) ?_
  unfold Builtin.«sorted»
  refine wpAny_bind (m := checkCount "sorted" 1 1 _) (wpAny_pure ?_)
  refine wpAny_bind (hcol fun h1 tk vs hk hP hz => ?_)
  refine wpAny_bind (wpAny_newList ?_ hz)
  have hoL : (h1.push (seqObj "list" vs.toArray 0)).get? h1.objs.size = some (seqObj "list" vs.toArray 0) := Heap.get?_push_size _ rfl
  have keep : ∀ b o, h1.get? b = some o → b ≠ h1.objs.size ∧ (h1.push (seqObj "list" vs.toArray 0)).get? b = some o := fun b o q => ⟨Nat.ne_of_lt (Heap.lt_size q), Heap.get?_push_of_some _ q⟩
  show wpAny _ _ _ _ _ { s with heap := h1.push (seqObj "list" vs.toArray 0), toks := tk }
  refine wpAny_bind (wpAny_holding (wpAny_call_entry slot_list_sort ⟨_, hoL, rfl⟩ entry_list_sort (list_sort_ord (O h1) (s := { s with heap := h1.push (seqObj "list" vs.toArray 0), toks := tk }) hoL hz (fun h2 => hS h1 vs hP h2 _ _ tk hoL keep) fun out hs hb => ⟨_, rfl, ?_⟩) (args_list_sort _)))
  obtain ⟨c, hc⟩ := sortedHeap_at (vs := vs) (out := out.toArray) hoL
  refine wpAny_pure ⟨_, rfl, h h1 _ vs out tk c hk hP hz hs hb (fun b o q => ?_) hc⟩
  have hlt := Heap.lt_size q
  show (sortedHeap (h1.push (seqObj "list" vs.toArray 0)) h1.objs.size vs out.toArray).get? b = some o
  rw [sortedHeap_old (keep b o q).1 (Nat.lt_of_lt_of_le hlt (by rw [size_push']; exact Nat.le_succ _))]
  exact (keep b o q).2
end
end SrtO
namespace Dl
open PySem L2 PyProof.Rows
theorem vals_pt : ∀ {xs : List V} {us : List Value}, us.length = xs.length → (∀ (j : Nat) (v : Value), us[j]? = some v → ∃ x, xs[j]? = some x ∧ RelV x v) → Vals xs us
  | [], [], _, _ => .nil
  | [], _ :: _, h, _ => by cases h
  | _ :: _, [], h, _ => by cases h
  | x :: xs, u :: us, h, k => by
    obtain ⟨y, e, r⟩ := k 0 u rfl
    cases e
    exact .cons r (vals_pt (by simpa using h) fun j v e => k (j + 1) v e)
def rSortK : DRC := fun ds G Q => arg1 ds fun x => dctP G x fun _ kvs => ∃ ns : List Int, kvs.map (·.1) = ns.map Sum.inl ∧ ∀ ns' p, List.Perm ns' ns → ns'.Pairwise (· ≤ ·) → G p = none → Q (.ref p) (updG G p (.lst (ns'.map D.int)))
theorem c_sortK {X : Cx} (hc : X.calm = true) : DCall X (.builtin "sorted") rSortK := by
  intro pins s σ H xs us Q I r ⟨G, ds, q, g, rl, h0, k⟩
  obtain ⟨d, rfl, h⟩ := arg1_of h0
  obtain ⟨x, rfl, rx⟩ := repL_1 rl
  cases d with
  | ref a =>
    cases rv_ref rx
    dsimp only [dctP] at h
    cases hg : G a with
    | none => rw [hg] at h; exact h.elim
    | some o =>
      rw [hg] at h
      cases o with
      | dct kvs =>
        obtain ⟨ns, hn, h⟩ := h
        obtain ⟨ws, w1, w2, w3⟩ := g a _ hg
        obtain ⟨u, rfl, ru⟩ := vals1 r
        obtain rfl : u = Value.ref a := ru
        obtain ⟨hz, hs0, vs, kv, hdo⟩ := I.hok a _ w1
        obtain ⟨ep, hat⟩ := hdo.dictAt
        have lk : ws.length = vs.length := Paired.length kv
        have l1 : ws.length = ns.length := by
          have := congrArg List.length w2
          have := congrArg List.length hn
          simp only [List.length_map] at *
          omega
        refine SrtO.sorted_col (ltv := fun _ => SrtO.ltIv) (P := fun _ us => IntsAre us ns) (fun _ => SrtO.swo_int) (fun {R} hR => ?_) (fun h1 us hi h2 h2' a' tk _ _ => SrtO.ints_sortable hi h2) fun h1 h2 us out tk c hk hi hz' e1 e2 k2 hl => ?_
        · refine PySem.W.kdu_collect (PySem.W.kdl_dict (knd := mixKind X.prog X.w) (kvs := vs) (ep := ep) hs0) (I.ok.hd hc) hat (by omega) fun h' tk acc hk hacc => ?_
          have la : acc.toList.length = vs.length := by rw [Array.length_toList]; exact hacc.1
          refine hR h' tk _ hk ?_ (by omega)
          have hv : Vals (ns.map V.int) acc.toList := by
            refine vals_pt (by rw [List.length_map]; omega) fun j v ev => ?_
            obtain ⟨key, x, hx, hkey⟩ := hacc.2 j v (by rw [← Array.getElem?_toList]; exact ev)
            obtain ⟨qv, g1, g2⟩ : ∃ p, ws[j]? = some p ∧ p.1 = key := by
              have key2 : ∀ {ws : List (Key × V)} {vs : List (Key × Value)}, KV ws vs → ∀ {j : Nat} {k : Key} {x : Value}, vs[j]? = some (k, x) → ∃ p, ws[j]? = some p ∧ p.1 = k := by
                intro ws vs kv
                induction kv with
                | nil => intro j k x e; cases e
                | cons q _ ih =>
                  intro j k x e
                  cases j with
                  | zero =>
                    simp only [List.getElem?_cons_zero, Option.some.injEq] at e
                    subst e
                    exact ⟨_, rfl, q.1⟩
                  | succ j => exact ih (by simpa using e)
              exact key2 kv hx
            have e3 : (ws.map (·.1))[j]? = some key := by rw [List.getElem?_map, g1]; exact congrArg some g2
            rw [w2, hn, List.getElem?_map] at e3
            cases e4 : ns[j]? with
            | none => rw [e4] at e3; cases e3
            | some n =>
              rw [e4] at e3
              simp only [Option.map_some, Option.some.injEq] at e3
              subst e3
              exact ⟨.int n, by rw [List.getElem?_map, e4]; rfl, relV_key (k := .inl n) hkey⟩
          exact hv.ints
        · obtain ⟨k1, k2', k3⟩ := SrtO.ints_out hi e1 e2
          have hlen : ((out.map SrtO.iv).map V.int).length ≤ sizeLine := by
            rw [List.length_map, k2'.length_eq]; omega
          have hf : H h1.objs.size = none := (I.hok.kept hk).fresh (Nat.le_refl _)
          obtain ⟨e', g', rv'⟩ := new_lst g hf (repL_of_ints (ns := out.map SrtO.iv))
          refine ⟨.ref _, upd H h1.objs.size (.lst ((out.map SrtO.iv).map V.int)), I.laidN (t' := tk) (fun b o e => k2 b o (hk b o e)) ?_ hf ⟨hlen, out, c, vals_of_ints k1, hl⟩, rfl, k _ _ _ _ e' g' rv' (h _ _ k2' k3 (g.fresh hf))⟩
          cases z : s.heap.get? h1.objs.size with
          | none => rfl
          | some o => exact absurd (Heap.lt_size (hk _ _ z)) (Nat.lt_irrefl _)
      | _ => exact h.elim
  | _ => exact h.elim
end Dl
namespace Dl
open PySem L2 PyProof.Rows LiI
def pairD (p : Int × Int) : D := .tup [.int p.1, .int p.2]
def dSortI (td : DTE) : DTE := fun ρ G Q => td ρ G fun x G1 => ∃ a kvs ps, x = .ref a ∧ G1 a = some (.dct kvs) ∧ kvs = ps.map (fun q : Int × Int => (Sum.inl q.1, D.int q.2)) ∧
  ∀ ps' p, List.Perm ps' ps → ps'.Pairwise (fun a b => SrtO.lexB b a = false) → G1 p = none → Q (.ref p) (updG G1 p (.lst (ps'.map pairD)))
noncomputable def rdP (h : Heap) (v : Value) : Int × Int := Classical.epsilon fun p : Int × Int => Srt.IsPair h v p.1 p.2
theorem pair_uni {h : Heap} {v : Value} {p q : Int × Int} (a : Srt.IsPair h v p.1 p.2) (b : Srt.IsPair h v q.1 q.2) : p = q := by
  obtain ⟨i, o, t, u, n, e1, e2, e3, e4⟩ := a
  obtain ⟨j, o', t', u', n', f1, f2, f3, f4⟩ := b
  rw [e1] at f1
  cases f1
  rw [e2] at f2
  cases f2
  rw [e4] at f4
  injection f4 with g1 g2
  have := congrArg Array.toList g1
  simp only [List.cons.injEq, Value.int.injEq, and_true] at this
  exact Prod.ext this.1.1 this.2.1
theorem rdP_of {h : Heap} {v : Value} {p : Int × Int} (a : Srt.IsPair h v p.1 p.2) : rdP h v = p := by
  exact pair_uni (Classical.epsilon_spec (p := fun p : Int × Int => Srt.IsPair h v p.1 p.2) ⟨p, a⟩) a
theorem tups_laid {X : Cx} {pins : List (Addr × Obj)} {σ : L2.St} {H : Hp} {s : Shared} {h' : Heap} {tk : Nat} {kvs : List (Key × V)} {vs : List (Key × Value)} {as : List Addr} {lo : Addr} (I : Inv X pins σ H s) (kv : KV kvs vs)
    (hk : ∀ b o, s.heap.get? b = some o → h'.get? b = some o) (hlo : s.heap.objs.size ≤ lo) (hl : as.length = vs.length) (hG : PySem.W.KdxG (mixKind X.prog X.w) vs lo h' as) :
    ∃ H' : Hp, (∀ b o, H b = some o → H' b = some o) ∧ (∀ t ∈ as, H t = none) ∧ (∀ b, b ∉ as → H' b = H b) ∧ Paired (fun (t : Addr) (q : Key × V) => H' t = some (.tup [kV q.1, q.2])) as kvs ∧ Inv X pins σ H' { s with heap := h', toks := tk } := by
  have lk : kvs.length = vs.length := Paired.length kv
  have nd : as.Nodup := List.Pairwise.imp (fun {a b} (h : a < b) => Nat.ne_of_lt h) hG.rise
  have new : ∀ t ∈ as, H t = none := fun t ht => I.hok.fresh (Nat.le_trans hlo (Nat.le_of_lt (hG.above t ht)))
  have atP := LiI.putT_at as kvs H (by omega) nd
  have off : ∀ b, b ∉ as → LiI.putT H as kvs b = H b := fun b h1 => LiI.putT_off as kvs _ h1
  have low : ∀ b o, s.heap.get? b = some o → b ∉ as := fun b o e z => absurd (Heap.lt_size e) (Nat.not_lt.mpr (Nat.le_trans hlo (Nat.le_of_lt (hG.above b z))))
  have kp : ∀ b u, H b = some u → (LiI.putT H as kvs) b = some u := fun b u e => by
    rw [off b fun z => by rw [new b z] at e; cases e]
    exact e
  refine ⟨LiI.putT H as kvs, kp, new, off, atP, ?_⟩
  refine I.call' (ch := []) rfl ⟨fun b o q _ _ _ => hk b o q, fun b o q _ _ _ => ⟨o.slots, hk b o q⟩, fun b o q n _ => ?_, fun b o q _ => ⟨o, hk b o q⟩, fun b xs q => kp b _ q, fun b o u q => kp b _ q, fun b ps q => ⟨#[], by rw [kp b _ q]; simp⟩⟩ (fun b u q => ?_) I.bare fun b z => by simp at z
  · rw [off b (low b o q)]
    exact n
  · by_cases hb : b ∈ as
    · obtain ⟨j, pk, e1, e2, e3⟩ := LiI.paired_ix atP hb
      rw [e3] at q
      cases q
      obtain ⟨key, k, x, f1, f2, f3⟩ := hG.pairs j b e1
      obtain ⟨qv, g1, g2, g3⟩ := LiI.paired_get kv e2
      rw [f1] at g1
      cases g1
      have rk : RelV (kV pk.1) key := by
        rw [g2]
        exact relV_key (show keyIs k key = true from f2)
      exact ⟨by show 2 ≤ sizeLine; decide, [key, x], .cons rk (.cons g3 .nil), ⟨_, f3, rfl, _, rfl⟩⟩
    · rw [off b hb] at q
      exact (I.hok b u q).stay (fun d v _ y => hk d v y) (fun d y => kp d _ y) fun d xs y => kp d _ y
def tSortI (te : TE) : TE := fun σ H Q => te σ H fun x H1 => ∃ (d : Addr) (qs : List (Int × Int)), x = .ref d ∧ H1 d = some (.dK (qs.map fun q => (Sum.inl q.1, V.int q.2))) ∧
  ∀ (H' : Hp) (p : Addr) (ts : List Addr) (ps : List (Int × Int)), (∀ b o, H1 b = some o → H' b = some o) → (∀ b, b ∉ ts → H' b = H1 b) → (∀ t ∈ ts, H1 t = none) → H1 p = none → p ∉ ts → List.Perm ps qs → ps.Pairwise (fun a b => SrtO.lexB b a = false) →
    Paired (fun (t : Addr) (q : Int × Int) => H' t = some (.tup [.int q.1, .int q.2])) ts ps → Q (.ref p) (upd H' p (.lst (ts.map V.ref)))
theorem paired_perm {α β : Type} {F : α → β → Prop} {a a' : List α} (p : List.Perm a a') : ∀ {b : List β}, Paired F a b → ∃ b', List.Perm b b' ∧ Paired F a' b' := by
  induction p with
  | nil => intro b h; exact ⟨b, List.Perm.refl _, h⟩
  | cons x _ ih =>
    intro b h
    cases h with
    | cons r t =>
      obtain ⟨b', p1, p2⟩ := ih t
      exact ⟨_ :: b', p1.cons _, .cons r p2⟩
  | swap x y l =>
    intro b h
    cases h with
    | cons r t =>
      cases t with
      | cons r2 t => exact ⟨_, List.Perm.swap .., .cons r2 (.cons r t)⟩
  | trans _ _ h1 h2 =>
    intro b h
    obtain ⟨b1, p1, q1⟩ := h1 h
    obtain ⟨b2, p2, q2⟩ := h2 q1
    exact ⟨b2, p1.trans p2, q2⟩
section
variable {X : Cx} {e : Expr} {te : TE} {p apos cpos pos : Pos}
theorem pe_sortI (hc : X.calm = true) (he : PE X e te) (hg : Gl X "sorted") (hm : X.mg "sorted" = none) (hbase : attributeBase e "items" X.env (eval e X.env) = eval e X.env := by rfl) (hline : (apos.endLine == cpos.line) = true := by rfl)
    (hse : starEach [Expr.Call (.Attribute e "items" apos) [] [] cpos] X.env = [(false, eval (Expr.Call (.Attribute e "items" apos) [] [] cpos) X.env)] := by rfl) :
    PE X (.Call (.Name "sorted" p) [.Call (.Attribute e "items" apos) [] [] cpos] [] pos) (tSortI te) := by
  refine ⟨fun pins s σ H Q I hq => ?_⟩
  refine wpAny_Call_Name_kw (ld_blt I hg hm (u := .builtin "sorted") (by first | rfl | decide +kernel) ?_ (by first | decide +kernel | decide) (by first | decide +kernel | decide))
  rw [hse]
  refine PySem.callWith_builtin1 ?_
  refine wpAny_Call_method (T := "dict") (id := "dict.items") hbase rfl hline F.plainAttrs_dict F.slot_dict_items F.type_dict_items (thn (he.run pins s σ H _ I hq) fun u s1 ⟨x, H1, I1, rx, d, qs, ex, hd, q⟩ => ?_)
  subst ex
  obtain rfl : u = Value.ref d := rx
  obtain ⟨hz, hs0, vs, kv, hdo⟩ := I1.hok d _ hd
  obtain ⟨ep, hat⟩ := hdo.dictAt
  have lk : (qs.map fun q => ((Sum.inl q.1 : Key), V.int q.2)).length = vs.length := Paired.length kv
  rw [List.length_map] at lk hz
  have I2 : Inv X pins σ H1 { s1 with heap := s1.heap.push { cls := .type "dict_items", data := .fields #[.ref d] } } := I1.kept (t' := s1.toks) fun b ob q => Heap.get?_push_of_some _ q
  refine ⟨hdo.typeIs, hdo.mapOf.noDict, ?_⟩
  show wpAny _ _ (callWith cpos (.builtin "dict.items") [.ref d] [] []) _ X.xe s1
  refine method_meetsIn F.slot_dict_items F.entry_dict_items rfl (PySem.evalArgs_none ⟨rfl, hdo.typeIs, F.args_dict_items_1 _, _, meets_dict_items (mixKind X.prog X.w) d hs0, ⟨vs, hdo⟩, ?_⟩)
  have ips : ∀ {lo : Addr} {h1 : Heap} {as : List Addr}, PySem.W.KdxG (mixKind X.prog X.w) vs lo h1 as → ∀ (j : Nat) (a : Addr), as[j]? = some a → ∃ q, qs[j]? = some q ∧ Srt.IsPair h1 (.ref a) q.1 q.2 := by
    intro lo h1 as hG j a ej
    obtain ⟨key, k, x, f1, f2, f3⟩ := hG.pairs j a ej
    have key2 : ∀ {qs : List (Int × Int)} {vs : List (Key × Value)}, KV (qs.map fun q => ((Sum.inl q.1 : Key), V.int q.2)) vs → ∀ {j : Nat}, vs[j]? = some (k, x) → ∃ q, qs[j]? = some q ∧ k = Sum.inl q.1 ∧ RelV (V.int q.2) x := by
      intro qs
      induction qs with
      | nil => intro vs h j e; cases h; cases e
      | cons q qs ih =>
        intro vs h j e
        cases h with
        | cons r t =>
          cases j with
          | zero =>
            simp only [List.getElem?_cons_zero, Option.some.injEq] at e
            subst e
            exact ⟨q, rfl, r.1.symm, r.2⟩
          | succ j => obtain ⟨q', z⟩ := ih t (by simpa using e); exact ⟨q', by simpa using z⟩
    obtain ⟨q, e1, rfl, rx⟩ := key2 kv f1
    obtain ⟨t1, e3⟩ : ∃ t, key = Value.int q.1 t := relV_key (k := .inl q.1) f2
    obtain ⟨t2, e4⟩ : ∃ t, x = Value.int q.2 t := rx
    subst e3; subst e4
    exact ⟨q, e1, a, _, t1, t2, _, rfl, f3, rfl, rfl⟩
  refine SrtO.sorted_col (s := { s1 with heap := s1.heap.push { cls := .type "dict_items", data := .fields #[.ref d] } }) (ltv := fun h v u => SrtO.lexB (rdP h v) (rdP h u)) (P := fun h1 us => ∃ as : List Addr, us = as.map Value.ref ∧ as.length = vs.length ∧ PySem.W.KdxG (mixKind X.prog X.w) vs (s1.heap.push { cls := .type "dict_items", data := .fields #[.ref d] }).objs.size h1 as) (fun h => SrtO.swo_lex _) (fun {R} hR => ?_) (fun h1 us hi h2 h2' a' tk ha kk => ?_) fun h1 h2 us out tk c hk hi hz' e1 e2 k2 hl => ?_
  · exact PySem.W.kdx_collect (knd := mixKind X.prog X.w) (kvs := vs) (ep := ep) (I1.ok.hd hc) ⟨_, Heap.get?_push_size _ rfl, rfl, rfl⟩ (hat.push _) (by omega) fun h' tk as hk hl hG => hR h' tk _ hk ⟨as, rfl, hl, hG⟩ (by rw [List.length_map]; omega)
  · obtain ⟨as, rfl, hl, hG⟩ := hi
    refine SrtO.pairs_sortableO (by omega) (fun v hv => ?_) fun o e => ?_
    · obtain ⟨a, ha, rfl⟩ := List.mem_map.mp hv
      obtain ⟨j, ej⟩ := List.mem_iff_getElem?.mp ha
      obtain ⟨q, _, ip⟩ := ips hG j a ej
      rw [rdP_of ip]
      exact ip.keeps fun b o e _ => (kk b o e).2
    · have e' := e.symm.trans ha
      cases e'
      intro c
      exact absurd (Value.type.inj c) (by decide)
  · obtain ⟨as, rfl, hl', hG⟩ := hi
    obtain ⟨H', k1, k3, k4, k5, J⟩ := tups_laid (tk := tk) I2 kv hk (Nat.le_refl _) hl' hG
    obtain ⟨ts, rfl⟩ : ∃ ts : List Addr, out = ts.map Value.ref := by
      have : ∀ u ∈ out, ∃ a, u = Value.ref a := fun u hu => by
        obtain ⟨a, _, e⟩ := List.mem_map.mp (e2.perm.mem_iff.mp hu)
        exact ⟨a, e.symm⟩
      have mk : ∀ l : List Value, (∀ u ∈ l, ∃ a, u = Value.ref a) → ∃ ts : List Addr, l = ts.map Value.ref := by
        intro l
        induction l with
        | nil => intro _; exact ⟨[], rfl⟩
        | cons u l ih =>
          intro h
          obtain ⟨a, rfl⟩ := h u (List.mem_cons_self ..)
          obtain ⟨ts, rfl⟩ := ih fun v hv => h v (List.mem_cons_of_mem _ hv)
          exact ⟨a :: ts, rfl⟩
      exact mk out this
    have pt : List.Perm as ts := by
      have := e2.perm.symm
      have h3 := this.map fun v => match v with | Value.ref a => a | _ => 0
      simpa [List.map_map, Function.comp_def] using h3
    have P0 : Paired (fun (t : Addr) (q : Int × Int) => H' t = some (.tup [.int q.1, .int q.2]) ∧ Srt.IsPair h1 (.ref t) q.1 q.2) as qs := by
      have gen : ∀ {as : List Addr} {qs : List (Int × Int)}, Paired (fun (t : Addr) (q : Key × V) => H' t = some (.tup [kV q.1, q.2])) as (qs.map fun q => ((Sum.inl q.1 : Key), V.int q.2)) → (∀ (j : Nat) (a : Addr), as[j]? = some a → ∃ q, qs[j]? = some q ∧ Srt.IsPair h1 (.ref a) q.1 q.2) → Paired (fun (t : Addr) (q : Int × Int) => H' t = some (.tup [.int q.1, .int q.2]) ∧ Srt.IsPair h1 (.ref t) q.1 q.2) as qs := by
        intro as qs
        induction qs generalizing as with
        | nil => intro h _; cases h; exact .nil
        | cons q qs ih =>
          intro h hi
          cases h with
          | cons r t =>
            obtain ⟨q', e, ip⟩ := hi 0 _ rfl
            cases e
            exact .cons ⟨r, ip⟩ (ih t fun j a e => hi (j + 1) a e)
      exact gen k5 (ips hG)
    obtain ⟨ps, pp, P1⟩ := paired_perm pt P0
    have srt : ps.Pairwise fun a b => SrtO.lexB b a = false := by
      have gen : ∀ {ts : List Addr} {ps : List (Int × Int)}, Paired (fun (t : Addr) (q : Int × Int) => H' t = some (.tup [.int q.1, .int q.2]) ∧ Srt.IsPair h1 (.ref t) q.1 q.2) ts ps → ps = ts.map fun t => rdP h1 (.ref t) := by
        intro ts ps h
        induction h with
        | nil => rfl
        | cons r _ ih => rw [List.map_cons, ← ih, rdP_of r.2]
      rw [gen P1, List.pairwise_map]
      have := List.pairwise_map.mp e1
      exact this
    have P2 : Paired (fun (t : Addr) (q : Int × Int) => H' t = some (.tup [.int q.1, .int q.2])) ts ps := by
      have gen : ∀ {ts : List Addr} {ps : List (Int × Int)}, Paired (fun (t : Addr) (q : Int × Int) => H' t = some (.tup [.int q.1, .int q.2]) ∧ Srt.IsPair h1 (.ref t) q.1 q.2) ts ps → Paired (fun (t : Addr) (q : Int × Int) => H' t = some (.tup [.int q.1, .int q.2])) ts ps := by
        intro ts ps h
        induction h with
        | nil => exact .nil
        | cons r _ ih => exact .cons r.1 ih
      exact gen P1
    have nin : h1.objs.size ∉ ts := fun z => Nat.lt_irrefl _ (hG.there (pt.mem_iff.mpr z))
    have hf : H' h1.objs.size = none := J.hok.fresh (Nat.le_refl _)
    refine ⟨.ref _, upd H' h1.objs.size (.lst (ts.map V.ref)), J.laid (t' := tk) k2 (Nat.le_refl _) ⟨?_, ts.map Value.ref, c, LiI.vals_refs ts, hl⟩, rfl, ?_⟩
    · rw [List.length_map, ← pt.length_eq]; omega
    · refine q H' _ ts ps k1 (fun b hb => k4 b fun z => hb (pt.mem_iff.mp z)) (fun t ht => k3 t (pt.mem_iff.mpr ht)) ?_ nin pp.symm srt P2
      rw [← k4 _ fun z => nin (pt.mem_iff.mp z)]; exact hf
end
end Dl
namespace Dl
open PySem L2 PyProof.Rows
theorem GOk.grow {K : PySem.W.Frag} {G : GH} {H H' : Hp} (g : GOk K G H) (k : ∀ b o, H b = some o → H' b = some o) : GOk K G H' := fun a u e => by
  have x := g a u e
  have ex : Ext G H G H' := fun a o h => ⟨⟨o, k a o h⟩, fun g => ⟨g, k a o h⟩⟩
  cases u with
  | lst ds => obtain ⟨xs, e1, r⟩ := x; exact ⟨xs, k _ _ e1, r.ext ex⟩
  | dct kvs => obtain ⟨xs, e1, e2, r⟩ := x; exact ⟨xs, k _ _ e1, e2, r.ext ex⟩
  | dtp kvs => obtain ⟨xs, e1, e2, r⟩ := x; exact ⟨xs, k _ _ e1, e2, r.ext ex⟩
  | raw w => exact k _ _ x
  | ins c fs => obtain ⟨dx, xs, e1, e2, r⟩ := x; exact ⟨dx, xs, k _ _ e1, e2, r.ext ex⟩
  | tab q => exact TabD.ext ex x (by obtain ⟨ps, e1, _⟩ := x; rw [k _ _ e1, e1])
  | slt c vs => exact SltD.ext ex x (by obtain ⟨dx, ws, _, e2, _⟩ := x; rw [k _ _ e2, e2])
  | dny w lk kvs => exact NyD.ext ex x (by obtain ⟨_, q, e1, _⟩ := x; rw [k _ _ e1, e1])
theorem pairs_back {K : PySem.W.Frag} {G : GH} {H : Hp} : ∀ {ps : List (Int × Int)} {ws : List (Key × V)}, ws.map (·.1) = (ps.map fun q : Int × Int => ((Sum.inl q.1 : Key), D.int q.2)).map (·.1) → RepL K G H ((ps.map fun q : Int × Int => ((Sum.inl q.1 : Key), D.int q.2)).map (·.2)) (ws.map (·.2)) → ws = ps.map fun q => (Sum.inl q.1, V.int q.2)
  | [], [], _, _ => rfl
  | [], _ :: _, h, _ => by simp at h
  | _ :: _, [], h, _ => by simp at h
  | q :: ps, w :: ws, h, r => by
    simp only [List.map_cons, List.cons.injEq] at h
    rw [List.map_cons, List.map_cons, List.map_cons] at r
    unfold RepL at r
    obtain ⟨x, xs, e, r1, r2⟩ := r
    cases e
    rw [List.map_cons, pairs_back h.2 r2]
    congr 1
    exact Prod.ext h.1 (rv_int r1)
theorem de_sortI {X : Cx} {o : Expr} {td : DTE} {p apos cpos pos : Pos} (hc : X.calm = true) (hg : Gl X "sorted") (hm : X.mg "sorted" = none) (hd : DE X o td) (hbase : attributeBase o "items" X.env (eval o X.env) = eval o X.env := by rfl) (hline : (apos.endLine == cpos.line) = true := by rfl)
    (hse : starEach [Expr.Call (.Attribute o "items" apos) [] [] cpos] X.env = [(false, eval (Expr.Call (.Attribute o "items" apos) [] [] cpos) X.env)] := by rfl) :
    DE X (.Call (.Name "sorted" p) [.Call (.Attribute o "items" apos) [] [] cpos] [] pos) (dSortI td) := by
  refine (pe_sortI hc hd hg hm hbase hline hse).imp fun σ H Q ⟨ρ, G, q, r, h, k⟩ => ?_
  refine ⟨ρ, G, _, r, h, fun v d H1 G1 e1 r1 v1 h1 => ?_⟩
  obtain ⟨a, kvs, ps, rfl, hga, rfl, h1⟩ := h1
  cases rv_ref v1
  obtain ⟨ws, w1, w2, w3⟩ := r1.gok a _ hga
  obtain rfl := pairs_back w2 w3
  refine ⟨a, ps, rfl, w1, fun H' l ts ps' k1 k2 k3 k4 k5 k6 k7 k8 => ?_⟩
  have ex : Ext G1 H1 G1 H' := fun a o h => ⟨⟨o, k1 a o h⟩, fun g => ⟨g, k1 a o h⟩⟩
  have g2 : GOk X.K G1 H' := r1.gok.grow k1
  have hl : H' l = none := by rw [k2 l k5, k4]
  have rl : RepL X.K G1 H' (ps'.map pairD) (ts.map V.ref) := by
    have gen : ∀ {ts : List Addr} {ps : List (Int × Int)}, (∀ t ∈ ts, H1 t = none) → Paired (fun (t : Addr) (q : Int × Int) => H' t = some (.tup [.int q.1, .int q.2])) ts ps → RepL X.K G1 H' (ps.map pairD) (ts.map V.ref) := by
      intro ts ps hn h
      induction h with
      | nil => exact repL_nil
      | @cons t q ts ps r _ ih =>
        refine repL_cons ?_ (ih fun t ht => hn t (List.mem_cons_of_mem _ ht))
        unfold pairD RepV
        exact ⟨_, _, rfl, .inl ⟨r1.gok.fresh (hn _ (List.mem_cons_self ..)), r⟩, repL_cons int_rv (repL_one int_rv)⟩
    exact gen k3 k8
  obtain ⟨e2, g3, v2⟩ := new_lst g2 hl rl
  exact k _ _ _ _ ((e1.trans ex).trans e2) ((r1.ext ex g2).ext e2 g3) v2 (h1 ps' l k6 k7 (r1.gok.fresh k4))
def rMinP : DRC := fun ds G Q => arg1 ds fun x => match lsOf G x with
  | some l => ∃ ps : List (Int × Int), l = ps.map pairD ∧ ps ≠ [] ∧ ∀ p ∈ ps, (∀ q ∈ ps, SrtO.lexB q p = false) → Q (pairD p) G
  | none => False
def pyP (p : Int × Int) : PyData := .tuple [.int p.1, .int p.2]
theorem lt_pyP (p q : Int × Int) : PySem.W.dataLt (pyP p) (pyP q) = SrtO.lexB p q := by
  unfold pyP
  rw [PySem.W.dataLt_ii]
  unfold SrtO.lexB
  by_cases e : p.1 = q.1
  · rw [if_pos e]; simp [e]
  · rw [if_neg e]; simp [e]
theorem min_pyP : ∀ (ps : List (Int × Int)) (x : Int × Int), ∃ p, p ∈ x :: ps ∧ (ps.map pyP).foldl (fun a y => if PySem.W.dataLt y a then y else a) (pyP x) = pyP p ∧ ∀ q ∈ x :: ps, SrtO.lexB q p = false
  | [], x => ⟨x, List.mem_cons_self .., rfl, fun q hq => by
      rw [List.mem_singleton] at hq; subst hq
      unfold SrtO.lexB; rw [if_pos rfl]; simp⟩
  | y :: ps, x => by
    rw [List.map_cons, List.foldl_cons, lt_pyP]
    have tr : ∀ a b c : Int × Int, SrtO.lexB b a = false → SrtO.lexB c b = false → SrtO.lexB c a = false := fun a b c h1 h2 => by
      rw [SrtO.lexB_no] at *
      omega
    cases e : SrtO.lexB y x with
    | true =>
      rw [if_pos rfl]
      obtain ⟨p, h1, h2, h3⟩ := min_pyP ps y
      refine ⟨p, List.mem_cons_of_mem _ h1, h2, fun q hq => ?_⟩
      rcases List.mem_cons.mp hq with z | z
      · subst z
        refine tr p y q (h3 y (List.mem_cons_self ..)) ?_
        rw [SrtO.lexB_no]
        rw [SrtO.lexB_iff] at e
        omega
      · exact h3 q z
    | false =>
      rw [if_neg (by decide)]
      obtain ⟨p, h1, h2, h3⟩ := min_pyP ps x
      refine ⟨p, ?_, h2, fun q hq => ?_⟩
      · rcases List.mem_cons.mp h1 with z | z
        · rw [z]; exact List.mem_cons_self ..
        · exact List.mem_cons_of_mem _ (List.mem_cons_of_mem _ z)
      · rcases List.mem_cons.mp hq with z | z
        · rw [z]; exact h3 x (List.mem_cons_self ..)
        · rcases List.mem_cons.mp z with z | z
          · rw [z]; exact tr p x y (h3 x (List.mem_cons_self ..)) e
          · exact h3 q (List.mem_cons_of_mem _ z)
theorem py_pairs : ∀ ps : List (Int × Int), pyDs (ps.map pairD) = ps.map pyP
  | [] => by simp [pyDs]
  | p :: ps => by rw [List.map_cons, pyDs, py_pairs ps, List.map_cons]; simp [pairD, pyD, pyDs, pyP]
theorem pure_pairs (ps : List (Int × Int)) : pureDs (ps.map pairD) = true := by
  rw [pureDs_iff]
  intro d hd
  obtain ⟨p, _, rfl⟩ := List.mem_map.mp hd
  simp [pairD, pureD, pureDs]
theorem rep_ix {K : PySem.W.Frag} {G : GH} {H : Hp} : ∀ {ds : List D} {ys : List V} {us : List Value}, RepL K G H ds ys → Vals ys us → ∀ {i : Nat} {v : Value}, us[i]? = some v → ∃ d y, ds[i]? = some d ∧ RepV K G H d y ∧ RelV y v
  | [], ys, us, h, r, i, v, e => by
    unfold RepL at h
    subst h
    cases r
    cases e
  | d :: ds, ys, us, h, r, i, v, e => by
    unfold RepL at h
    obtain ⟨y, ys', rfl, h1, h2⟩ := h
    cases r with
    | cons r1 r2 =>
      cases i with
      | zero =>
        simp only [List.getElem?_cons_zero, Option.some.injEq] at e
        subst e
        exact ⟨d, y, rfl, h1, r1⟩
      | succ i => exact rep_ix h2 r2 (by simpa using e)
theorem c_minP {X : Cx} (hc : X.calm = true) (hu : X.A.units + 70 < cLine) : DCall X (.builtin "min") rMinP := by
  intro pins s σ H xs us Q I r ⟨G, ds, q, g, rl, h0, k⟩
  obtain ⟨d, rfl, h⟩ := arg1_of h0
  obtain ⟨x, rfl, rx⟩ := repL_1 rl
  cases e : lsOf G d with
  | none => rw [e] at h; exact h.elim
  | some l =>
    rw [e] at h
    obtain ⟨ps, rfl, hne, h⟩ := h
    obtain ⟨a, ys, rfl, hs, rl2⟩ := ls_at g rx e
    obtain ⟨its, rv, hl, hz⟩ := I.list (SqL.of hs)
    obtain ⟨u, rfl, ru⟩ := vals1 r
    obtain rfl : u = Value.ref a := ru
    have rd := reads_of I g (pure_pairs ps) rl2 rv
    cases ps with
    | nil => exact absurd rfl hne
    | cons p0 ps =>
      obtain ⟨p, hp, e1, e2⟩ := min_pyP ps p0
      have hr : ∃ as, ReadsAll s.heap its (pyP p0 :: ps.map pyP) as := by
        have gen : ∀ {us : List Value} {ds : List D}, Ech (fun u d => ∃ as, Reads s.heap u (pyD d) as) us ds → ∃ as, ReadsAll s.heap us (pyDs ds) as := by
          intro us ds h
          induction h with
          | nil => exact ⟨_, by rw [pyDs]; exact .nil⟩
          | cons r _ ih =>
            obtain ⟨as, r⟩ := r
            obtain ⟨bs, r2⟩ := ih
            exact ⟨_, by rw [pyDs]; exact .cons r r2⟩
        have := gen rd
        rwa [py_pairs, List.map_cons] at this
      obtain ⟨as, hr⟩ := hr
      have dep : PyData.depthAll (pyP p0 :: ps.map pyP) ≤ 3 := by
        have gen : ∀ l : List (Int × Int), PyData.depthAll (l.map pyP) ≤ 3 := by
          intro l
          induction l with
          | nil => simp [PyData.depthAll]
          | cons p l ih =>
            rw [List.map_cons, PyData.depthAll]
            have : PyData.depth (pyP p) ≤ 3 := by simp [pyP, PyData.depth, PyData.depthAll]
            omega
        exact gen (p0 :: ps)
      refine PySem.W.min_list_data (I.ok.hd hc) hl.isList hr ⟨fun x hx y hy => ?_, fun x hx => ?_⟩ (by omega) fun i v h' tk bs hv rd' kp => ?_
      · rw [← List.map_cons] at hx hy
        obtain ⟨p1, _, rfl⟩ := List.mem_map.mp hx
        obtain ⟨p2, _, rfl⟩ := List.mem_map.mp hy
        simp [pyP, PySem.W.alike, PySem.W.alikeAll]
      · rw [← List.map_cons] at hx
        obtain ⟨p1, _, rfl⟩ := List.mem_map.mp hx
        simp [pyP]
      · obtain ⟨d, y, f1, f2, f3⟩ := rep_ix rl2 rv (i := i) (v := v) (by simpa using hv)
        rw [List.getElem?_map] at f1
        cases f4 : (p0 :: ps)[i]? with
        | none => rw [f4] at f1; cases f1
        | some p1 =>
          rw [f4] at f1
          simp only [Option.map_some, Option.some.injEq] at f1
          subst f1
          have hp1 := List.mem_of_getElem? f4
          have dp := vw_dp g f2 (by rw [vw_pure (by simp [pairD, pureD, pureDs])]; simp [pairD, pureD, pureDs])
          rw [vw_pure (by simp [pairD, pureD, pureDs])] at dp
          obtain ⟨cs, r3⟩ := Dp.reads I _ _ _ dp f3
          have r4 := PyProof.Rows.Reads.keeps kp r3
          have e3 : pyP p = pyP p1 := by
            have a1 := PySem.SeqAt.readOf_plain (by simp [pyP, PyData.plain, PyData.plainAll]) (show Reads h' v (pyP p) bs from by unfold PySem.W.minD at rd'; rw [e1] at rd'; exact rd')
            have a2 := PySem.SeqAt.readOf_plain (by simp [pairD, pyD, pyDs, PyData.plain, PyData.plainAll]) r4
            rw [← a1, a2]
            simp [pairD, pyD, pyDs, pyP]
          have e4 : p = p1 := by
            simp only [pyP, PyData.tuple.injEq, List.cons.injEq, PyData.int.injEq, and_true] at e3
            exact Prod.ext e3.1 e3.2
          subst e4
          exact ⟨y, H, I.kept kp, f3, k _ _ H G (Ext.refl G H) g f2 (h p hp e2)⟩
theorem minP_i {ps : List (Int × Int)} {G : GH} {Q : DK} (hne : ps ≠ []) (h : ∀ p ∈ ps, (∀ q ∈ ps, SrtO.lexB q p = false) → Q (pairD p) G) : rMinP [.lst (ps.map pairD)] G Q := ⟨ps, rfl, hne, h⟩
end Dl
namespace K22
open PySem L2 Dl
def r_choices_among : DTS :=
  (dSeq (dAsg (dC (.int 1)) (gNm 2))
  (dSeq (dFor (iRg1 (dCons (dVar 1) dNil)) (gNm 3)
  (dAsg (dOp rFdivW (dOp rMulW (dVar 2) (dOp rSub (dVar 0) (dVar 3))) (dOp rAdd (dVar 3) (dC (.int 1)))) (gNm 2)))
  (dRet (dVar 2))))
def r_joined (sp_choices_among : DSp) : DTS :=
  (dSeq (dAsg dNewK (gNm 3))
  (dSeq (dForI 0 (gTp 2 (gsCons (gNm 4) (gsCons (gNm 5) gsNil)))
  (dForI 1 (gTp 2 (gsCons (gNm 6) (gsCons (gNm 7) gsNil)))
  (dSeq (dAsg (dIf (dTru (dVar 2)) (dCall sp_choices_among (dCons (dOp rAdd (dVar 4) (dVar 6)) (dCons (dVar 4) dNil))) (dC (.int 1))) (gNm 8))
  (dAsg (dOp rAdd (dGet2 (dVar 3) (dOp rAdd (dVar 4) (dVar 6)) (dC (.int 0))) (dOp rMulW (dOp rMulW (dVar 5) (dVar 7)) (dVar 8))) (gSb (dVar 3) (dOp rAdd (dVar 4) (dVar 6)) sDct)))))
  (dRet (dVar 3))))
def r_added : DTS :=
  (dSeq (dAsg dNewK (gNm 1))
  (dSeq (dFor (iSq (dVar 0)) (gNm 2)
  (dForI 2 (gTp 2 (gsCons (gNm 3) (gsCons (gNm 4) gsNil)))
  (dAsg (dOp rAdd (dGet2 (dVar 1) (dVar 3) (dC (.int 0))) (dVar 4)) (gSb (dVar 1) (dVar 3) sDct))))
  (dRet (dVar 1))))
def r_longer : DTS :=
  (dRet (dDcI 0 (.tup [2, 3]) dYes (dOp rAdd (dVar 2) (dVar 1)) (dVar 3) [2, 3]))
def r_round_tables (sp_joined : DSp) : DTS :=
  (dSeq (dAsg (dLst dNil) (gNm 3))
  (dSeq (dAsg (dDisp [((dC (.int 0)), (dC (.int 1)))]) (gNm 4))
  (dSeq (dFor (iRg1 (dCons (dOp rAdd (dVar 1) (dC (.int 1))) dNil)) (gNm 5)
  (dSeq (dIfS (dTst (dOp rGe (dVar 5) (dVar 0)))
  (dDrop (dMt mAppend (dVar 3) (dCons (dVar 4) dNil)))
  dNext)
  (dAsg (dCallG sp_joined 2 0 [(0, 0), (0, 1), (1, 0)] [.bl false] (dCons (dVar 4) (dCons (dVar 2) dNil)) dNil) (gNm 4))))
  (dRet (dFrz (dVar 3))))))
def r_length_table (sp_joined : DSp) (sp_length_table : DSp) (sp_longer : DSp) (sp_added : DSp) (sp_round_tables : DSp) : DTS :=
  (dMatch (dOp rIx (dVar 0) (dC (.int 0))) [(some "tick", (dRet (dDisp [((dOp rIx (dVar 0) (dC (.int 1))), (dC (.int 1)))]))),
  (some "some", (dRet (dDc (iRg2 (dCons (dOp rIx (dVar 0) (dC (.int 1))) (dCons (dOp rAdd (dOp rIx (dVar 0) (dC (.int 2))) (dC (.int 1))) dNil))) (.one 1) dYes (dOp rAdd (dVar 1) (dC (.int 1))) (dC (.int 1)) [1]))),
  (some "loop", (dSeq (dAsg (dCall sp_length_table (dCons (dOp rIx (dVar 0) (dC (.int 4))) dNil)) (gNm 2))
  (dRet (dCall sp_longer (dCons (dCall sp_added (dCons (dCall sp_round_tables (dCons (dOp rIx (dVar 0) (dC (.int 1))) (dCons (dOp rIx (dVar 0) (dC (.int 2))) (dCons (dIf (dTru (dOp rIx (dVar 0) (dC (.int 3)))) (dVar 2) (dCall sp_longer (dCons (dVar 2) (dCons (dC (.int 1)) dNil)))) dNil)))) dNil)) (dCons (dC (.int 1)) dNil)))))),
  (some "either", (dRet (dCall sp_longer (dCons (dCall sp_added (dCons (dFrz (dLc (iSq (dOp rIx (dVar 0) (dC (.int 1)))) (.one 3) dYes (dCall sp_length_table (dCons (dVar 3) dNil)) [3])) dNil)) (dCons (dC (.int 1)) dNil))))),
  (some "beside", (dRet (dCallG sp_joined 3 0 [(0, 0), (0, 1), (0, 2)] [.bl false] (dCons (dCall sp_length_table (dCons (dOp rIx (dVar 0) (dC (.int 1))) dNil)) (dCons (dCall sp_length_table (dCons (dOp rIx (dVar 0) (dC (.int 2))) dNil)) (dCons (dC (.bl true)) dNil))) dNil))),
  (none, (dSeq (dAsg (dDisp [((dC (.int 0)), (dC (.int 1)))]) (gNm 4))
  (dSeq (dFor (iSq (dOp rIx (dVar 0) (dC (.int 1)))) (gNm 3)
  (dAsg (dCallG sp_joined 2 0 [(0, 0), (0, 1), (1, 0)] [.bl false] (dCons (dVar 4) (dCons (dCall sp_length_table (dCons (dVar 3) dNil)) dNil)) dNil) (gNm 4)))
  (dRet (dVar 4)))))])
def r_lengths_of (sp_length_table : DSp) : DTS :=
  (dSeq (dAsg (dCall sp_length_table (dCons (dVar 0) dNil)) (gNm 1))
  (dRet (dCB rTupC (dCons (dFrz (dLc (iSq (dFrz (dCB rSortK (dCons (dVar 1) dNil)))) (.one 2) dYes (dTup (dCons (dVar 2) (dCons (dDGet (dVar 1) (dVar 2)) dNil))) [2])) dNil))))
def r_how_many_runs (sp_lengths_of : DSp) : DTS :=
  (dRet (dCB rSumC (dCons (dFrz (dLc (iSq (dCall sp_lengths_of (dCons (dVar 0) dNil))) (.tup [1, 2]) dYes (dVar 2) [1, 2])) dNil)))
def r_shortest_run (sp_shortest_run : DSp) : DTS :=
  (dMatch (dOp rIx (dVar 0) (dC (.int 0))) [(some "tick", (dRet (dOp rMul (dTup (dCons (dC (.str "tick")) dNil)) (dOp rIx (dVar 0) (dC (.int 1)))))),
  (some "some", (dSeq (dAsg (dOp rMul (dTup (dCons (dC (.str "tick")) dNil)) (dOp rIx (dVar 0) (dC (.int 1)))) (gNm 1))
  (dRet (dIf (dTru (dOp rIx (dVar 0) (dC (.int 3)))) (dTup (dCons (dTup (dCons (dC (.str "many")) (dCons (dOp rIx (dVar 0) (dC (.int 1))) dNil))) (dStar (dVar 1) dNil))) (dTup (dStar (dVar 1) (dCons (dC (.str "end")) dNil))))))),
  (some "loop", (dSeq (dAsg (dCall sp_shortest_run (dCons (dOp rIx (dVar 0) (dC (.int 4))) dNil)) (gNm 2))
  (dRet (dIf (dTru (dOp rIx (dVar 0) (dC (.int 3)))) (dTup (dCons (dTup (dCons (dC (.str "many")) (dCons (dOp rIx (dVar 0) (dC (.int 1))) dNil))) (dStar (dOp rMul (dVar 2) (dOp rIx (dVar 0) (dC (.int 1)))) dNil))) (dOp rAdd (dOp rMul (dTup (dCons (dC (.str "more")) (dStar (dVar 2) dNil))) (dOp rIx (dVar 0) (dC (.int 1)))) (dTup (dCons (dC (.str "end")) dNil))))))),
  (some "either", (dSeq (dAsg (dFrz (dLc (iEnT (dOp rIx (dVar 0) (dC (.int 1)))) (.tup [4, 5]) dYes (dTup (dCons (dTup (dCons (dC (.str "way")) (dCons (dVar 4) dNil))) (dStar (dCall sp_shortest_run (dCons (dVar 5) dNil)) dNil))) [4, 5])) (gNm 3))
  (dRet (dOp rIx (dFrz (dLc (iSq (dVar 3)) (.one 6) (dTst (dOp rEqv (dCB rLen (dCons (dVar 6) dNil)) (dCB rMinC (dCons (dFrz (dLc (iSq (dVar 3)) (.one 7) dYes (dCB rLen (dCons (dVar 7) dNil)) [7])) dNil)))) (dVar 6) [6])) (dC (.int 0)))))),
  (some "beside", (dSeq (dPar 7 8 (dCons (dCall sp_shortest_run (dCons (dOp rIx (dVar 0) (dC (.int 1))) dNil)) (dCons (dCall sp_shortest_run (dCons (dOp rIx (dVar 0) (dC (.int 2))) dNil)) dNil)))
  (dRet (dCB rTupC (dCons (dFrz (dOp rAdd (dFrz (dLc (iSq (dVar 7)) (.one 9) dYes (dTup (dCons (dC (.str "left")) (dCons (dVar 9) dNil))) [9])) (dFrz (dLc (iSq (dVar 8)) (.one 9) dYes (dTup (dCons (dC (.str "right")) (dCons (dVar 9) dNil))) [9])))) dNil))))),
  (none, (dRet (dCB rTupC (dCons (dFrz (dLc2 (iSq (dOp rIx (dVar 0) (dC (.int 1)))) (.one 5) (iSq (dCall sp_shortest_run (dCons (dVar 5) dNil))) (.one 9) (dVar 9) [5, 9] [9])) dNil))))])
def r_law_feed : DTS :=
  (dRet (dDisp [((dC (.str "cells")), (dFrz (dCB rLstC (dCons (dFrz (dSl (dVar 0) dNoP (dP (dC (.int 63))))) dNil)))), ((dC (.str "at")), (dC (.int 0))), ((dC (.str "left")), (dC (.int 0))), ((dC (.str "turn")), (dC (.int 0)))]))
def r_law_draw : DTS :=
  (dSeq (dAsg (dOp rAdd (dDGet (dVar 0) (dC (.str "turn"))) (dC (.int 1))) (gSb (dVar 0) (dC (.str "turn")) sDct))
  (dSeq (dIfS (dTst (dOp rEqv (dDGet (dVar 0) (dC (.str "cells"))) (dFrz (dLst dNil))))
  (dRet (dOp rMod (dCB rIntC (dCons (dOp rFdiv (dOp rMul (dDGet (dVar 0) (dC (.str "turn"))) (dC (.int 7))) (dC (.int 4))) dNil)) (dVar 1)))
  dNext)
  (dSeq (dIfS (dTst (dOp rGt (dDGet (dVar 0) (dC (.str "left"))) (dC (.int 0))))
  (dSeq (dAsg (dOp rMod (dCB rIntC (dCons (dDGet (dVar 0) (dC (.str "left"))) dNil)) (dVar 1)) (gNm 2))
  (dSeq (dAsg (dOp rFdiv (dDGet (dVar 0) (dC (.str "left"))) (dVar 1)) (gSb (dVar 0) (dC (.str "left")) sDct))
  (dRet (dVar 2))))
  dNext)
  (dSeq (dAsg (dDGet (dVar 0) (dC (.str "at"))) (gNm 3))
  (dSeq (dAsg (dOp rAdd (dVar 3) (dC (.int 1))) (gSb (dVar 0) (dC (.str "at")) sDct))
  (dSeq (dAsg (dOp rIx (dDGet (dVar 0) (dC (.str "cells"))) (dOp rMod (dCB rIntC (dCons (dVar 3) dNil)) (dCB rLen (dCons (dDGet (dVar 0) (dC (.str "cells"))) dNil)))) (gNm 4))
  (dSeq (dIfS (dAnd (dTst (dOp rGe (dVar 4) (dOp rPow (dC (.int 10)) (dC (.int 18))))) (dTst (dOp rLt (dVar 3) (dCB rLen (dCons (dDGet (dVar 0) (dC (.str "cells"))) dNil)))))
  (dSeq (dAsg (dOp rFdiv (dVar 4) (dVar 1)) (gSb (dVar 0) (dC (.str "left")) sDct))
  (dRet (dOp rMod (dCB rIntC (dCons (dVar 4) dNil)) (dVar 1))))
  dNext)
  (dSeq (dAsg (dOp rMod (dCB rIntC (dCons (dOp rAdd (dOp rAdd (dOp rMod (dCB rIntC (dCons (dVar 4) dNil)) (dC (.int 1000003097))) (dOp rMul (dC (.int 97381)) (dDGet (dVar 0) (dC (.str "turn"))))) (dC (.int 811))) dNil)) (dC (.int 2147483563))) (gNm 5))
  (dSeq (dAsg (dOp rMod (dCB rIntC (dCons (dOp rAdd (dOp rAdd (dOp rPow (dVar 5) (dC (.int 3))) (dOp rMul (dC (.int 7401211)) (dDGet (dVar 0) (dC (.str "turn"))))) (dC (.int 443))) dNil)) (dC (.int 2147483489))) (gNm 5))
  (dRet (dOp rMod (dCB rIntC (dCons (dOp rFdiv (dOp rMod (dCB rIntC (dCons (dOp rAdd (dOp rPow (dVar 5) (dC (.int 3))) (dOp rMul (dC (.int 397)) (dVar 5))) dNil)) (dC (.int 2147483399))) (dC (.int 32))) dNil)) (dVar 1))))))))))))
def r_law_tidy (sp_law_tidy : DSp) : DTS :=
  (dSeq (dIfS (dTst (dOp rEqv (dOp rIx (dVar 0) (dC (.int 0))) (dC (.str "beside"))))
  (dSeq (dPar 1 2 (dCons (dCall sp_law_tidy (dCons (dOp rIx (dVar 0) (dC (.int 1))) dNil)) (dCons (dCall sp_law_tidy (dCons (dOp rIx (dVar 0) (dC (.int 2))) dNil)) dNil)))
  (dRet (dIf (dAnd (dTst (dOp rEqv (dVar 1) (dTup (dCons (dC (.str "row")) (dCons (dTup dNil) dNil))))) (dTst (dOp rEqv (dVar 2) (dTup (dCons (dC (.str "row")) (dCons (dTup dNil) dNil)))))) (dTup (dCons (dC (.str "row")) (dCons (dTup dNil) dNil))) (dTup (dCons (dC (.str "beside")) (dCons (dVar 1) (dCons (dVar 2) dNil)))))))
  dNext)
  (dSeq (dIfS (dTst (dOp rNev (dOp rIx (dVar 0) (dC (.int 0))) (dC (.str "row"))))
  (dRet (dVar 0))
  dNext)
  (dSeq (dAsg (dLst dNil) (gNm 3))
  (dSeq (dFor (iSq (dOp rIx (dVar 0) (dC (.int 1)))) (gNm 4)
  (dSeq (dAsg (dCall sp_law_tidy (dCons (dVar 4) dNil)) (gNm 5))
  (dDrop (dMt mExtend (dVar 3) (dCons (dIf (dTst (dOp rEqv (dOp rIx (dVar 5) (dC (.int 0))) (dC (.str "row")))) (dFrz (dCB rLstC (dCons (dOp rIx (dVar 5) (dC (.int 1))) dNil))) (dFrz (dLst (dCons (dVar 5) dNil)))) dNil)))))
  (dRet (dIf (dTst (dOp rEqv (dCB rLen (dCons (dVar 3) dNil)) (dC (.int 1)))) (dOp rIx (dVar 3) (dC (.int 0))) (dTup (dCons (dC (.str "row")) (dCons (dCB rTupC (dCons (dVar 3) dNil)) dNil)))))))))
def r_law_next (sp_law_next : DSp) : DTS :=
  (dSeq (dAsg (dOp rIx (dVar 0) (dC (.int 0))) (gNm 1))
  (dSeq (dIfS (dTst (dOp rEqv (dVar 1) (dC (.str "tick"))))
  (dRet (dFrz (dLst (dCons (dC (.str "tick")) dNil))))
  dNext)
  (dSeq (dIfS (dTst (dOp rEqv (dVar 1) (dC (.str "row"))))
  (dRet (dIf (dTst (dOp rNev (dOp rIx (dVar 0) (dC (.int 1))) (dTup dNil))) (dCall sp_law_next (dCons (dOp rIx (dOp rIx (dVar 0) (dC (.int 1))) (dC (.int 0))) dNil)) (dFrz (dLst dNil))))
  dNext)
  (dSeq (dIfS (dAnd (dTst (dOp (rInn id) (dVar 1) (dTup (dCons (dC (.str "some")) (dCons (dC (.str "loop")) dNil))))) (dTru (dOp rIx (dVar 0) (dC (.int 3)))))
  (dRet (dFrz (dLc (iRg2 (dCons (dOp rIx (dVar 0) (dC (.int 1))) (dCons (dOp rAdd (dOp rIx (dVar 0) (dC (.int 2))) (dC (.int 1))) dNil))) (.one 2) dYes (dTup (dCons (dC (.str "many")) (dCons (dVar 2) dNil))) [2])))
  dNext)
  (dSeq (dIfS (dTst (dOp (rInn id) (dVar 1) (dTup (dCons (dC (.str "some")) (dCons (dC (.str "loop")) dNil)))))
  (dSeq (dAsg (dFrz (dOp rMul (dFrz (dLst (dCons (dDGet (dDisp [((dC (.str "some")), (dC (.str "tick"))), ((dC (.str "loop")), (dC (.str "more")))]) (dVar 1)) dNil))) (dCB rIntC (dCons (dOp rGt (dOp rIx (dVar 0) (dC (.int 2))) (dC (.int 0))) dNil)))) (gNm 3))
  (dRet (dFrz (dOp rAdd (dVar 3) (dFrz (dOp rMul (dFrz (dLst (dCons (dC (.str "end")) dNil))) (dCB rIntC (dCons (dOp rEqv (dOp rIx (dVar 0) (dC (.int 1))) (dC (.int 0))) dNil))))))))
  dNext)
  (dSeq (dIfS (dTst (dOp rEqv (dVar 1) (dC (.str "either"))))
  (dRet (dFrz (dLc (iRg1 (dCons (dCB rLen (dCons (dOp rIx (dVar 0) (dC (.int 1))) dNil)) dNil)) (.one 4) dYes (dTup (dCons (dC (.str "way")) (dCons (dVar 4) dNil))) [4])))
  dNext)
  (dRet (dFrz (dOp rAdd (dFrz (dLc (iSq (dCall sp_law_next (dCons (dOp rIx (dVar 0) (dC (.int 1))) dNil))) (.one 5) dYes (dTup (dCons (dC (.str "left")) (dCons (dVar 5) dNil))) [5])) (dFrz (dLc (iSq (dCall sp_law_next (dCons (dOp rIx (dVar 0) (dC (.int 2))) dNil))) (.one 5) dYes (dTup (dCons (dC (.str "right")) (dCons (dVar 5) dNil))) [5])))))))))))
def r_law_behind (sp_law_behind : DSp) : DTS :=
  (dSeq (dAsg (dOp rIx (dVar 0) (dC (.int 0))) (gNm 2))
  (dSeq (dIfS (dTst (dOp rEqv (dVar 2) (dC (.str "row"))))
  (dRet (dTup (dCons (dC (.str "row")) (dCons (dOp rAdd (dTup (dCons (dCall sp_law_behind (dCons (dOp rIx (dOp rIx (dVar 0) (dC (.int 1))) (dC (.int 0))) (dCons (dVar 1) dNil))) dNil)) (dSl (dOp rIx (dVar 0) (dC (.int 1))) (dP (dC (.int 1))) dNoP)) dNil))))
  dNext)
  (dSeq (dIfS (dTst (dOp rEqv (dVar 2) (dC (.str "beside"))))
  (dSeq (dIfS (dTst (dOp rEqv (dOp rIx (dVar 1) (dC (.int 0))) (dC (.str "left"))))
  (dRet (dTup (dCons (dC (.str "beside")) (dCons (dCall sp_law_behind (dCons (dOp rIx (dVar 0) (dC (.int 1))) (dCons (dOp rIx (dVar 1) (dC (.int 1))) dNil))) (dCons (dOp rIx (dVar 0) (dC (.int 2))) dNil)))))
  dNext)
  (dRet (dTup (dCons (dC (.str "beside")) (dCons (dOp rIx (dVar 0) (dC (.int 1))) (dCons (dCall sp_law_behind (dCons (dOp rIx (dVar 0) (dC (.int 2))) (dCons (dOp rIx (dVar 1) (dC (.int 1))) dNil))) dNil))))))
  dNext)
  (dSeq (dIfS (dTst (dOp rEqv (dVar 2) (dC (.str "either"))))
  (dRet (dOp rIx (dOp rIx (dVar 0) (dC (.int 1))) (dOp rIx (dVar 1) (dC (.int 1)))))
  dNext)
  (dSeq (dIfS (dTst (dOp rEqv (dVar 1) (dC (.str "end"))))
  (dRet (dTup (dCons (dC (.str "row")) (dCons (dTup dNil) dNil))))
  dNext)
  (dSeq (dIfS (dOr (dTst (dOp rEqv (dVar 2) (dC (.str "tick")))) (dAnd (dTst (dOp rEqv (dVar 2) (dC (.str "some")))) (dTru (dOp rIx (dVar 0) (dC (.int 3))))))
  (dSeq (dAsg (dIf (dTst (dOp rEqv (dVar 2) (dC (.str "tick")))) (dOp rSub (dOp rIx (dVar 0) (dC (.int 1))) (dC (.int 1))) (dOp rIx (dVar 1) (dC (.int 1)))) (gNm 3))
  (dRet (dIf (dTst (dOp rGt (dVar 3) (dC (.int 0)))) (dTup (dCons (dC (.str "tick")) (dCons (dVar 3) dNil))) (dTup (dCons (dC (.str "row")) (dCons (dTup dNil) dNil))))))
  dNext)
  (dSeq (dIfS (dTst (dOp rEqv (dVar 2) (dC (.str "some"))))
  (dRet (dTup (dCons (dC (.str "some")) (dCons (dCB rMax2 (dCons (dC (.int 0)) (dCons (dOp rSub (dOp rIx (dVar 0) (dC (.int 1))) (dC (.int 1))) dNil))) (dCons (dOp rSub (dOp rIx (dVar 0) (dC (.int 2))) (dC (.int 1))) (dCons (dC (.bl false)) dNil))))))
  dNext)
  (dSeq (dIfS (dTru (dOp rIx (dVar 0) (dC (.int 3))))
  (dRet (dTup (dCons (dC (.str "row")) (dCons (dOp rMul (dTup (dCons (dOp rIx (dVar 0) (dC (.int 4))) dNil)) (dOp rIx (dVar 1) (dC (.int 1)))) dNil))))
  dNext)
  (dRet (dTup (dCons (dC (.str "row")) (dCons (dTup (dCons (dOp rIx (dVar 0) (dC (.int 4))) (dCons (dTup (dCons (dC (.str "loop")) (dCons (dCB rMax2 (dCons (dC (.int 0)) (dCons (dOp rSub (dOp rIx (dVar 0) (dC (.int 1))) (dC (.int 1))) dNil))) (dCons (dOp rSub (dOp rIx (dVar 0) (dC (.int 2))) (dC (.int 1))) (dCons (dC (.bl false)) (dCons (dOp rIx (dVar 0) (dC (.int 4))) dNil)))))) dNil))) dNil))))))))))))
def r_law_after (sp_law_tidy : DSp) (sp_law_behind : DSp) : DTS :=
  (dRet (dCall sp_law_tidy (dCons (dCall sp_law_behind (dCons (dVar 0) (dCons (dVar 1) dNil))) dNil)))
def r_law_is_tick (sp_law_is_tick : DSp) : DTS :=
  (dSeq (dIfS (dTru (dIsi "tuple" (dVar 0)))
  (dRet (dIf (dTst (dOp (rInn id) (dOp rIx (dVar 0) (dC (.int 0))) (dTup (dCons (dC (.str "left")) (dCons (dC (.str "right")) dNil))))) (dCall sp_law_is_tick (dCons (dOp rIx (dVar 0) (dC (.int 1))) dNil)) (dC (.int 0))))
  dNext)
  (dRet (dCB rIntC (dCons (dOp rEqv (dVar 0) (dC (.str "tick"))) dNil))))
def r_law_end (sp_law_end : DSp) : DTS :=
  (dSeq (dAsg (dOp rIx (dVar 0) (dC (.int 0))) (gNm 2))
  (dSeq (dIfS (dTst (dOp rEqv (dVar 2) (dC (.str "tick"))))
  (dRet (dOp rIx (dVar 0) (dC (.int 1))))
  dNext)
  (dSeq (dIfS (dTst (dOp (rInn id) (dVar 2) (dTup (dCons (dC (.str "some")) (dCons (dC (.str "loop")) dNil)))))
  (dSeq (dAsg (dIf (dTru (dVar 1)) (dOp rIx (dVar 0) (dC (.int 1))) (dOp rIx (dVar 0) (dC (.int 2)))) (gNm 3))
  (dRet (dIf (dTst (dOp rEqv (dVar 2) (dC (.str "some")))) (dVar 3) (dOp rMul (dVar 3) (dCall sp_law_end (dCons (dOp rIx (dVar 0) (dC (.int 4))) (dCons (dVar 1) dNil)))))))
  dNext)
  (dSeq (dIfS (dTst (dOp rEqv (dVar 2) (dC (.str "beside"))))
  (dRet (dOp rAdd (dCall sp_law_end (dCons (dOp rIx (dVar 0) (dC (.int 1))) (dCons (dVar 1) dNil))) (dCall sp_law_end (dCons (dOp rIx (dVar 0) (dC (.int 2))) (dCons (dVar 1) dNil)))))
  dNext)
  (dSeq (dAsg (dFrz (dLc (iSq (dOp rIx (dVar 0) (dC (.int 1)))) (.one 5) dYes (dCall sp_law_end (dCons (dVar 5) (dCons (dVar 1) dNil))) [5])) (gNm 4))
  (dSeq (dIfS (dTst (dOp rEqv (dVar 2) (dC (.str "row"))))
  (dRet (dCB rSumC (dCons (dVar 4) dNil)))
  dNext)
  (dRet (dIf (dTru (dVar 1)) (dCB rMinC (dCons (dVar 4) dNil)) (dCB rMaxC (dCons (dVar 4) dNil))))))))))
def r_law_rounds : DTS :=
  (dSeq (dAsg (dFrz (dLc (iSq (dTup (dCons (dC (.bl false)) (dCons (dC (.bl true)) dNil)))) (.one 1) dYes (dTup (dCons (dC (.str "row")) (dCons (dTup (dCons (dTup (dCons (dC (.str "tick")) (dCons (dC (.int 2)) dNil))) (dCons (dTup (dCons (dC (.str "loop")) (dCons (dC (.int 1)) (dCons (dC (.int 3)) (dCons (dVar 1) (dCons (dTup (dCons (dC (.str "tick")) (dCons (dC (.int 2)) dNil))) dNil)))))) dNil))) dNil))) [1])) (gNm 0))
  (dRet (dTup (dCons (dOp rIx (dVar 0) (dC (.int 0))) (dCons (dOp rIx (dVar 0) (dC (.int 1))) dNil)))))
def r_law_job (sp_law_draw : DSp) (sp_law_job : DSp) : DTS :=
  (dSeq (dAsg (dIf (dAnd (dTst (dOp rGt (dVar 1) (dC (.int 0)))) (dTst (dOp rGt (dOp rIx (dVar 2) (dC (.int 0))) (dC (.int 1))))) (dCall sp_law_draw (dCons (dVar 0) (dCons (dC (.int 9)) dNil))) (dCall sp_law_draw (dCons (dVar 0) (dCons (dC (.int 3)) dNil)))) (gNm 3))
  (dSeq (dPar 4 5 (dCons (dCall sp_law_draw (dCons (dVar 0) (dCons (dC (.int 2)) dNil))) (dCons (dC (.int 1)) dNil)))
  (dSeq (dIfS (dTst (dOp rEqv (dVar 3) (dC (.int 0))))
  (dRet (dTup (dCons (dC (.str "tick")) (dCons (dOp rAdd (dC (.int 1)) (dCall sp_law_draw (dCons (dVar 0) (dCons (dC (.int 3)) dNil)))) dNil))))
  dNext)
  (dSeq (dIfS (dTst (dOp rLt (dVar 3) (dC (.int 3))))
  (dRet (dTup (dCons (dC (.str "some")) (dCons (dVar 4) (dCons (dOp rAdd (dVar 4) (dCall sp_law_draw (dCons (dVar 0) (dCons (dC (.int 3)) dNil)))) (dCons (dOp rEqv (dVar 3) (dC (.int 1))) dNil))))))
  dNext)
  (dSeq (dIfS (dTst (dOp rLt (dVar 3) (dC (.int 5))))
  (dAsg (dCB rMin2 (dCons (dCall sp_law_draw (dCons (dVar 0) (dCons (dC (.int 4)) dNil))) (dCons (dOp rIx (dVar 2) (dC (.int 0))) dNil))) (gNm 5))
  (dIfS (dTst (dOp rGt (dVar 3) (dC (.int 6))))
  (dAsg (dIf (dOr (dTst (dOp rEqv (dVar 3) (dC (.int 7)))) (dNot (dTru (dOp rIx (dVar 2) (dC (.int 1)))))) (dOp rAdd (dC (.int 1)) (dCall sp_law_draw (dCons (dVar 0) (dCons (dC (.int 2)) dNil)))) (dC (.int 2))) (gNm 5))
  dNext))
  (dSeq (dAsg (dAndV (dOp rEqv (dVar 3) (dC (.int 8))) (dOp rIx (dVar 2) (dC (.int 1)))) (gNm 6))
  (dSeq (dAsg (dTup (dCons (dOp rSub (dOp rIx (dVar 2) (dC (.int 0))) (dVar 5)) (dCons (dAndV (dOp rIx (dVar 2) (dC (.int 1))) (dNotV (dVar 6))) dNil))) (gTp 2 (gsCons (gSb (dVar 2) (dC (.int 0)) sLst) (gsCons (gSb (dVar 2) (dC (.int 1)) sLst) gsNil))))
  (dSeq (dAsg (dFrz (dLc (iRg1 (dCons (dVar 5) dNil)) (.one 8) dYes (dCall sp_law_job (dCons (dVar 0) (dCons (dOp rSub (dVar 1) (dC (.int 1))) (dCons (dVar 2) dNil)))) [8])) (gNm 7))
  (dSeq (dIfS (dTst (dOp (rInn id) (dVar 3) (dTup (dCons (dC (.int 5)) (dCons (dC (.int 6)) dNil)))))
  (dRet (dTup (dCons (dC (.str "loop")) (dCons (dVar 4) (dCons (dOp rAdd (dVar 4) (dCall sp_law_draw (dCons (dVar 0) (dCons (dC (.int 3)) dNil)))) (dCons (dOp rEqv (dVar 3) (dC (.int 5))) (dCons (dOp rIx (dVar 7) (dC (.int 0))) dNil)))))))
  dNext)
  (dSeq (dIfS (dTru (dVar 6))
  (dRet (dTup (dCons (dC (.str "beside")) (dCons (dOp rIx (dVar 7) (dC (.int 0))) (dCons (dOp rIx (dVar 7) (dC (.int 1))) dNil)))))
  dNext)
  (dRet (dTup (dCons (dIf (dTst (dOp rLt (dVar 3) (dC (.int 5)))) (dC (.str "row")) (dC (.str "either"))) (dCons (dCB rTupC (dCons (dVar 7) dNil)) dNil))))))))))))))
def r_law_sides : DTS :=
  (dRet (dTup (dCons (dC (.str "beside")) (dCons (dTup (dCons (dC (.str "tick")) (dCons (dC (.int 1)) dNil))) (dCons (dTup (dCons (dC (.str "some")) (dCons (dC (.int 0)) (dCons (dC (.int 1)) (dCons (dC (.bl false)) dNil))))) dNil)))))
def r_law_great : DTS :=
  (dSeq (dAsg (dTup (dCons (dC (.str "row")) (dCons (dTup (dCons (dTup (dCons (dC (.str "tick")) (dCons (dC (.int 2)) dNil))) (dCons (dTup (dCons (dC (.str "some")) (dCons (dC (.int 0)) (dCons (dC (.int 2)) (dCons (dC (.bl false)) dNil))))) dNil))) dNil))) (gNm 0))
  (dSeq (dAsg (dTup (dCons (dC (.str "row")) (dCons (dTup (dCons (dTup (dCons (dC (.str "loop")) (dCons (dC (.int 1)) (dCons (dC (.int 3)) (dCons (dC (.bl false)) (dCons (dVar 0) dNil)))))) (dCons (dTup (dCons (dC (.str "either")) (dCons (dTup (dCons (dTup (dCons (dC (.str "tick")) (dCons (dC (.int 5)) dNil))) (dCons (dTup (dCons (dC (.str "some")) (dCons (dC (.int 0)) (dCons (dC (.int 2)) (dCons (dC (.bl true)) dNil))))) dNil))) dNil))) dNil))) dNil))) (gNm 1))
  (dSeq (dAsg (dTup (dCons (dC (.str "row")) (dCons (dTup (dCons (dTup (dCons (dC (.str "tick")) (dCons (dC (.int 5)) dNil))) (dCons (dTup (dCons (dC (.str "beside")) (dCons (dTup (dCons (dC (.str "some")) (dCons (dC (.int 1)) (dCons (dC (.int 3)) (dCons (dC (.bl true)) dNil))))) (dCons (dTup (dCons (dC (.str "loop")) (dCons (dC (.int 0)) (dCons (dC (.int 3)) (dCons (dC (.bl false)) (dCons (dTup (dCons (dC (.str "tick")) (dCons (dC (.int 2)) dNil))) dNil)))))) dNil)))) dNil))) dNil))) (gNm 2))
  (dRet (dTup (dCons (dVar 1) (dCons (dVar 2) (dCons (dTup (dCons (dC (.str "row")) (dCons (dTup (dCons (dTup (dCons (dC (.str "tick")) (dCons (dC (.int 12)) dNil))) (dCons (dTup (dCons (dC (.str "loop")) (dCons (dC (.int 3)) (dCons (dC (.int 12)) (dCons (dC (.bl false)) (dCons (dTup (dCons (dC (.str "tick")) (dCons (dC (.int 4)) dNil))) dNil)))))) dNil))) dNil))) dNil))))))))
def r_law_lengths (sp_law_next : DSp) (sp_law_lengths : DSp) (sp_law_after : DSp) : DTS :=
  (dSeq (dAsg (dCB rRepr (dCons (dVar 0) dNil)) (gNm 2))
  (dSeq (dIfS (dTst (dOp (rDIn not) (dVar 2) (dVar 1)))
  (dSeq (dAsg (dIf (dTst (dOp rNev (dCall sp_law_next (dCons (dVar 0) dNil)) (dFrz (dLst dNil)))) dNewK (dDisp [((dC (.int 0)), (dC (.int 1)))])) (gNm 3))
  (dSeq (dFor (iSq (dCall sp_law_next (dCons (dVar 0) dNil))) (gNm 4)
  (dFor (iSq (dCall sp_law_lengths (dCons (dCall sp_law_after (dCons (dVar 0) (dCons (dVar 4) dNil))) (dCons (dVar 1) dNil)))) (gTp 2 (gsCons (gNm 5) (gsCons (gNm 6) gsNil)))
  (dAsg (dOp rAdd (dGet2 (dVar 3) (dOp rAdd (dVar 5) (dC (.int 1))) (dC (.int 0))) (dVar 6)) (gSb (dVar 3) (dOp rAdd (dVar 5) (dC (.int 1))) sDct))))
  (dAsg (dFrz (dSortI (dVar 3))) (gSb (dVar 1) (dVar 2) sDct))))
  dNext)
  (dRet (dDGet (dVar 1) (dVar 2)))))
def r_law_shortest (sp_law_next : DSp) (sp_law_after : DSp) (sp_law_lengths : DSp) (sp_law_tidy : DSp) : DTS :=
  (dSeq (dAsg (dTup (dCons (dCall sp_law_tidy (dCons (dVar 0) dNil)) (dCons dNewK (dCons (dTup dNil) dNil)))) (gTp 3 (gsCons (gNm 1) (gsCons (gNm 2) (gsCons (gNm 3) gsNil)))))
  (dSeq (dWhile (dTst (dOp rNev (dCall sp_law_next (dCons (dVar 1) dNil)) (dFrz (dLst dNil))))
  (dSeq (dAsg (dFrz (dLc (iEnL (dCall sp_law_next (dCons (dVar 1) dNil))) (.tup [5, 6]) dYes (dTup (dCons (dOp rIx (dOp rIx (dCall sp_law_lengths (dCons (dCall sp_law_after (dCons (dVar 1) (dCons (dVar 6) dNil))) (dCons (dVar 2) dNil))) (dC (.int 0))) (dC (.int 0))) (dCons (dVar 5) dNil))) [5, 6])) (gNm 4))
  (dSeq (dAsg (dOp rIx (dCall sp_law_next (dCons (dVar 1) dNil)) (dOp rIx (dCB rMinP (dCons (dVar 4) dNil)) (dC (.int 1)))) (gNm 6))
  (dSeq (dAsg (dOp rAdd (dVar 3) (dTup (dCons (dVar 6) dNil))) (gNm 3))
  (dAsg (dCall sp_law_after (dCons (dVar 1) (dCons (dVar 6) dNil))) (gNm 1))))))
  (dRet (dVar 3))))
def r_law_is_small (sp_law_end : DSp) (sp_law_next : DSp) (sp_law_after : DSp) (sp_law_is_tick : DSp) (sp_law_tidy : DSp) : DTS :=
  (dSeq (dAsg (dLst (dCons (dTup (dCons (dC (.int 0)) (dCons (dCall sp_law_tidy (dCons (dVar 0) dNil)) dNil))) dNil)) (gNm 1))
  (dSeq (dAsg (dDisp [((dCB rRepr (dCons (dOp rIx (dVar 1) (dC (.int 0))) dNil)), (dC (.int 1)))]) (gNm 2))
  (dSeq (dWhile (dAnd (dTst (dOp rNev (dVar 1) (dFrz (dLst dNil)))) (dTst (dOp rLe (dCB rLen (dCons (dVar 2) dNil)) (dC (.int 200)))))
  (dSeq (dAsg (dMt mPop (dVar 1) dNil) (gTp 2 (gsCons (gNm 3) (gsCons (gNm 4) gsNil))))
  (dFor (iSq (dCall sp_law_next (dCons (dVar 4) dNil))) (gNm 5)
  (dSeq (dAsg (dTup (dCons (dOp rAdd (dVar 3) (dCall sp_law_is_tick (dCons (dVar 5) dNil))) (dCons (dCall sp_law_after (dCons (dVar 4) (dCons (dVar 5) dNil))) dNil))) (gNm 6))
  (dIfS (dTst (dOp (rDIn not) (dCB rRepr (dCons (dVar 6) dNil)) (dVar 2)))
  (dSeq (dAsg (dC (.int 1)) (gSb (dVar 2) (dCB rRepr (dCons (dVar 6) dNil)) sDct))
  (dDrop (dMt mAppend (dVar 1) (dCons (dVar 6) dNil))))
  dNext)))))
  (dRet (dAndV (dOp rLe (dCB rLen (dCons (dVar 2) dNil)) (dC (.int 200))) (dOp rLe (dCall sp_law_end (dCons (dVar 0) (dCons (dC (.bl false)) dNil))) (dC (.int 60))))))))
def r_law_small_job (sp_law_is_small : DSp) (sp_law_rounds : DSp) (sp_law_draw : DSp) (sp_law_job : DSp) : DTS :=
  (dSeq (dAsg (dCall sp_law_job (dCons (dVar 0) (dCons (dVar 1) (dCons (dVar 2) dNil)))) (gNm 3))
  (dRet (dIf (dTru (dCall sp_law_is_small (dCons (dVar 3) dNil))) (dVar 3) (dOp rIx (dCall sp_law_rounds dNil) (dCall sp_law_draw (dCons (dVar 0) (dCons (dC (.int 2)) dNil)))))))
def r_law_broad : DTS :=
  (dSeq (dAsg (dTup (dCons (dC (.str "either")) (dCons (dTup (dCons (dTup (dCons (dC (.str "tick")) (dCons (dC (.int 3)) dNil))) (dCons (dTup (dCons (dC (.str "tick")) (dCons (dC (.int 2)) dNil))) (dCons (dTup (dCons (dC (.str "tick")) (dCons (dC (.int 2)) dNil))) (dCons (dTup (dCons (dC (.str "tick")) (dCons (dC (.int 1)) dNil))) (dCons (dTup (dCons (dC (.str "row")) (dCons (dTup dNil) dNil))) dNil)))))) dNil))) (gNm 0))
  (dRet (dTup (dCons (dVar 0) (dCons (dTup (dCons (dC (.str "loop")) (dCons (dC (.int 0)) (dCons (dC (.int 12)) (dCons (dC (.bl true)) (dCons (dTup (dCons (dC (.str "tick")) (dCons (dC (.int 1)) dNil))) dNil)))))) (dCons (dTup (dCons (dC (.str "some")) (dCons (dC (.int 0)) (dCons (dC (.int 12)) (dCons (dC (.bl true)) dNil))))) (dCons (dTup (dCons (dC (.str "some")) (dCons (dC (.int 2)) (dCons (dC (.int 12)) (dCons (dC (.bl false)) dNil))))) dNil)))))))
def r_law_agrees (sp_shortest_run : DSp) (sp_how_many_runs : DSp) (sp_lengths_of : DSp) (sp_law_shortest : DSp) (sp_law_lengths : DSp) (sp_law_tidy : DSp) : DTS :=
  (dSeq (dPar 1 2 (dCons (dCB rReprA (dCons (dVar 0) dNil)) (dCons (dCB rTupC (dCons (dCall sp_law_lengths (dCons (dCall sp_law_tidy (dCons (dVar 0) dNil)) (dCons dNewK dNil))) dNil)) dNil)))
  (dSeq (dAsg (dFrz (dLst (dCons (dVar 2) (dCons (dCB rSumC (dCons (dFrz (dLc (iSq (dVar 2)) (.tup [4, 5]) dYes (dVar 5) [4, 5])) dNil)) (dCons (dCall sp_law_shortest (dCons (dVar 0) dNil)) dNil))))) (gNm 3))
  (dSeq (dAsg (dFrz (dLst (dCons (dCall sp_lengths_of (dCons (dVar 0) dNil)) (dCons (dCall sp_how_many_runs (dCons (dVar 0) dNil)) (dCons (dCall sp_shortest_run (dCons (dVar 0) dNil)) dNil))))) (gNm 6))
  (dSeq (dAsg (dFrz (dLst (dCons (dCall sp_lengths_of (dCons (dVar 0) dNil)) (dCons (dCall sp_how_many_runs (dCons (dVar 0) dNil)) (dCons (dCall sp_shortest_run (dCons (dVar 0) dNil)) dNil))))) (gNm 7))
  (dRet (dAndV (dOp rEqv (dCB rReprA (dCons (dFrz (dLst (dCons (dVar 6) (dCons (dVar 7) dNil)))) dNil)) (dCB rReprA (dCons (dFrz (dLst (dCons (dVar 3) (dCons (dVar 3) dNil)))) dNil))) (dOp rEqv (dCB rReprA (dCons (dVar 0) dNil)) (dVar 1))))))))
def r_law (sp_law_agrees : DSp) (sp_law_small_job : DSp) (sp_law_draw : DSp) (sp_law_rounds : DSp) (sp_law_broad : DSp) (sp_law_sides : DSp) (sp_law_great : DSp) (sp_shortest_run : DSp) (sp_how_many_runs : DSp) (sp_lengths_of : DSp) (sp_law_feed : DSp) : DTS :=
  (dSeq (dAsg (dCall sp_law_feed (dCons (dVar 0) dNil)) (gNm 1))
  (dSeq (dAsg (dTup (dCons (dC (.str "row")) (dCons (dTup dNil) dNil))) (gNm 2))
  (dSeq (dIfS (dOr (dTst (dOp rNev (dCall sp_lengths_of (dCons (dVar 2) dNil)) (dTup (dCons (dTup (dCons (dC (.int 0)) (dCons (dC (.int 1)) dNil))) dNil)))) (dOr (dTst (dOp rNev (dCall sp_how_many_runs (dCons (dCall sp_law_sides dNil) dNil)) (dC (.int 5)))) (dTst (dOp rNev (dCall sp_shortest_run (dCons (dVar 2) dNil)) (dTup dNil)))))
  (dRet (dC (.bl false)))
  dNext)
  (dSeq (dAsg (dLst (dCons (dVar 2) (dCons (dTup (dCons (dC (.str "either")) (dCons (dTup (dCons (dTup (dCons (dC (.str "tick")) (dCons (dC (.int 2)) dNil))) (dCons (dVar 2) (dCons (dTup (dCons (dC (.str "tick")) (dCons (dC (.int 1)) dNil))) dNil)))) dNil))) (dCons (dTup (dCons (dC (.str "loop")) (dCons (dC (.int 0)) (dCons (dC (.int 3)) (dCons (dC (.bl true)) (dCons (dTup (dCons (dC (.str "some")) (dCons (dC (.int 0)) (dCons (dC (.int 2)) (dCons (dC (.bl false)) dNil))))) dNil)))))) dNil)))) (gNm 3))
  (dSeq (dDrop (dMt mAppend (dVar 3) (dCons (dTup (dCons (dC (.str "either")) (dCons (dTup (dCons (dTup (dCons (dC (.str "tick")) (dCons (dC (.int 1)) dNil))) (dCons (dTup (dCons (dC (.str "some")) (dCons (dC (.int 0)) (dCons (dC (.int 2)) (dCons (dC (.bl false)) dNil))))) dNil))) dNil))) dNil)))
  (dSeq (dFor (iSq (dFrz (dOp rAdd (dFrz (dOp rAdd (dFrz (dOp rAdd (dVar 3) (dFrz (dCB rLstC (dCons (dOp rAdd (dCall sp_law_rounds dNil) (dCall sp_law_broad dNil)) dNil))))) (dFrz (dLst (dCons (dCall sp_law_sides dNil) dNil))))) (dFrz (dCB rLstC (dCons (dCall sp_law_great dNil) dNil)))))) (gNm 4)
  (dIfS (dNot (dTru (dCall sp_law_agrees (dCons (dVar 4) dNil))))
  (dRet (dC (.bl false)))
  dNext))
  (dSeq (dFor (iRg1 (dCons (dC (.int 6)) dNil)) (gNm 5)
  (dSeq (dAsg (dCall sp_law_small_job (dCons (dVar 1) (dCons (dC (.int 3)) (dCons (dLst (dCons (dC (.int 6)) (dCons (dOp rEqv (dCall sp_law_draw (dCons (dVar 1) (dCons (dC (.int 2)) dNil))) (dC (.int 0))) dNil))) dNil)))) (gNm 4))
  (dIfS (dNot (dTru (dCall sp_law_agrees (dCons (dVar 4) dNil))))
  (dRet (dC (.bl false)))
  dNext)))
  (dRet (dC (.bl true))))))))))
end K22
namespace K22
open PySem L2 Dl K17 K18 K24 K20 K28 K27 K23
local macro_rules | `(tactic| walk_at "ds") => `(tactic| repeat' with_reducible first
  | refine iVar (by with_unfolding_all rfl) ?_
  | refine iCons ?_
  | refine iNil ?_
  | refine iC ?_
  | refine iOp ?_
  | refine iSeq ?_
  | refine iAsg ?_
  | refine iGNm ?_
  | refine iRet ?_
  | refine iFor ?_
  | refine add_ii ?_
  | refine int0 ?_
  | refine iIRg1 ?_
  | fail "stuck")
def tot (l : List (Nat × Nat)) (f : Nat → Nat) : Nat := sm l fun p => p.2 * f p.1
theorem tot_nil (f : Nat → Nat) : tot [] f = 0 := rfl
theorem tot_cons (p : Nat × Nat) (l : List (Nat × Nat)) (f : Nat → Nat) : tot (p :: l) f = p.2 * f p.1 + tot l f := sm_cons _ _ _
def kvT (l : List (Nat × Nat)) : List (Key × D) := l.map fun p => (Sum.inl (p.1 : Int), D.int (p.2 : Int))
def lkT : List (Nat × Nat) → Nat → Nat
  | [], _ => 0
  | p :: l, k => if p.1 = k then p.2 else lkT l k
def bmp : List (Nat × Nat) → Nat → Nat → List (Nat × Nat)
  | [], k, x => [(k, x)]
  | p :: l, k, x => if p.1 = k then (k, p.2 + x) :: l else p :: bmp l k x
theorem tot_bmp (f : Nat → Nat) (k x : Nat) : ∀ l : List (Nat × Nat), tot (bmp l k x) f = tot l f + x * f k
  | [] => by simp only [bmp, tot_cons, tot_nil]; omega
  | p :: l => by
    rw [bmp]
    split
    · rename_i e
      simp only [tot_cons, e, Nat.add_mul]; omega
    · rw [tot_cons, tot_cons, tot_bmp f k x l]; omega
theorem bmp_mem {k x : Nat} : ∀ {l : List (Nat × Nat)} {q : Nat × Nat}, q ∈ bmp l k x → q.1 = k ∧ x ≤ q.2 ∨ q ∈ l
  | [], q, h => by
    rw [bmp, List.mem_singleton] at h
    rw [h]; exact .inl ⟨rfl, Nat.le_refl _⟩
  | p :: l, q, h => by
    rw [bmp] at h
    split at h
    · rcases List.mem_cons.mp h with e | e
      · rw [e]; exact .inl ⟨rfl, Nat.le_add_left _ _⟩
      · exact .inr (List.mem_cons_of_mem _ e)
    · rcases List.mem_cons.mp h with e | e
      · rw [e]; exact .inr (List.mem_cons_self ..)
      · rcases bmp_mem e with z | z
        · exact .inl z
        · exact .inr (List.mem_cons_of_mem _ z)
theorem bmp_nd {k x : Nat} : ∀ {l : List (Nat × Nat)}, (l.map (·.1)).Nodup → ((bmp l k x).map (·.1)).Nodup
  | [], _ => by simp [bmp]
  | p :: l, h => by
    rw [List.map_cons, List.nodup_cons] at h
    rw [bmp]
    split
    · rename_i e
      rw [List.map_cons, List.nodup_cons, ← e]; exact h
    · rename_i e
      rw [List.map_cons, List.nodup_cons]
      refine ⟨fun hm => ?_, bmp_nd h.2⟩
      obtain ⟨q, hq, e2⟩ := List.mem_map.mp hm
      rcases bmp_mem hq with z | z
      · exact e (e2.symm.trans z.1)
      · exact h.1 (List.mem_map.mpr ⟨q, z, e2⟩)
theorem bmp_len {k x : Nat} : ∀ {l : List (Nat × Nat)}, (bmp l k x).length ≤ l.length + 1
  | [] => by simp [bmp]
  | p :: l => by
    rw [bmp]
    split
    · simp
    · have := bmp_len (k := k) (x := x) (l := l); simp only [List.length_cons]; omega
theorem get_kvT (k : Nat) : ∀ l : List (Nat × Nat), (getK (kvT l) (.inl (k : Int))).getD (.int 0) = .int (lkT l k : Nat)
  | [] => rfl
  | p :: l => by
    show (if (Sum.inl (p.1 : Int) : Key) = Sum.inl (k : Int) then some (D.int (p.2 : Int)) else getK (kvT l) (.inl (k : Int))).getD (.int 0) = _
    rw [lkT]
    by_cases e : p.1 = k
    · rw [if_pos (by rw [e]), if_pos e]; rfl
    · rw [if_neg (by intro z; exact e (by have := Sum.inl.inj z; omega)), if_neg e]; exact get_kvT k l
theorem put_kvT (k x : Nat) : ∀ l : List (Nat × Nat), (l.map (·.1)).Nodup → putD (kvT l) (.inl (k : Int)) (.int ((lkT l k + x : Nat) : Int)) = kvT (bmp l k x)
  | [], _ => by simp [putD, kvT, bmp, lkT]
  | p :: l, h => by
    rw [List.map_cons, List.nodup_cons] at h
    by_cases e : p.1 = k
    · have hr : ∀ q ∈ kvT l, q.1 ≠ (Sum.inl (k : Int) : Key) := fun q hq z => by
        obtain ⟨r, hr, rfl⟩ := List.mem_map.mp hq
        refine h.1 (List.mem_map.mpr ⟨r, hr, ?_⟩)
        have : r.1 = k := by have := Sum.inl.inj z; omega
        rw [this, e]
      rw [lkT, if_pos e, bmp, if_pos e]
      show putD ((Sum.inl (p.1 : Int), D.int (p.2 : Int)) :: kvT l) _ _ = (Sum.inl (k : Int), D.int ((p.2 + x : Nat) : Int)) :: kvT l
      unfold putD
      rw [if_pos (by simp [e]), List.map_cons, if_pos (by rw [e]), e]
      congr 1
      conv => rhs; rw [← List.map_id (kvT l)]
      exact List.map_congr_left fun q hq => by rw [if_neg (hr q hq)]; rfl
    · rw [lkT, if_neg e, bmp, if_neg e]
      have ih := put_kvT k x l h.2
      show putD ((Sum.inl (p.1 : Int), D.int (p.2 : Int)) :: kvT l) _ _ = (Sum.inl (p.1 : Int), D.int (p.2 : Int)) :: kvT (bmp l k x)
      rw [← ih]
      have ne : ¬ (Sum.inl (p.1 : Int) : Key) = Sum.inl (k : Int) := by intro z; exact e (by have := Sum.inl.inj z; omega)
      unfold putD
      simp only [List.any_cons, decide_eq_false ne, Bool.false_or, List.map_cons, if_neg ne, List.cons_append]
      split <;> rfl
structure Tb (l : List (Nat × Nat)) (B V : Nat) : Prop where
  nd : (l.map (·.1)).Nodup
  pos : ∀ p ∈ l, 1 ≤ p.2
  bd : ∀ p ∈ l, p.1 ≤ B
  vl : tot l (fun _ => 1) ≤ V
theorem Tb.len {l : List (Nat × Nat)} {B V : Nat} (h : Tb l B V) : l.length ≤ B + 1 := by
  have := K23.len_sub (T := List.range (B + 1)) h.nd fun x hx => by
    obtain ⟨p, hp, rfl⟩ := List.mem_map.mp hx
    exact List.mem_range.mpr (by have := h.bd p hp; omega)
  rwa [List.length_map, List.length_range] at this
theorem Tb.val {l : List (Nat × Nat)} {B V : Nat} (h : Tb l B V) {p : Nat × Nat} (hp : p ∈ l) : p.2 ≤ V := by
  have h1 := sm_mem (f := fun p : Nat × Nat => p.2 * 1) hp
  have h2 : sm l (fun p : Nat × Nat => p.2 * 1) ≤ V := h.vl
  simp only [Nat.mul_one] at h1 h2
  omega
theorem pw {m n : Nat} (h : m ≤ n) : 2 ^ m ≤ 2 ^ n := Nat.pow_le_pow_right (by decide) h
structure Lg (n x : Nat) : Prop where
  h : x < 2 ^ n
theorem Lg.mono {n m x y : Nat} (h : Lg n x) (hn : n ≤ m) (hx : y ≤ x) : Lg m y := ⟨Nat.lt_of_le_of_lt hx (Nat.lt_of_lt_of_le h.h (pw hn))⟩
theorem Lg.mul {n m x y : Nat} (h : Lg n x) (k : Lg m y) : Lg (n + m) (x * y) := ⟨by
  have a := h.h
  have b := k.h
  rw [Nat.pow_add]
  exact Nat.mul_lt_mul'' a b⟩
theorem Lg.le {n x : Nat} (h : x ≤ 2 ^ n) : Lg (n + 1) x := ⟨Nat.lt_of_le_of_lt h (Nat.pow_lt_pow_right (by decide) (by omega))⟩
theorem Lg.two {n x : Nat} (h : x ≤ 2 ^ n) {m : Nat} (hm : n < m) : Lg m x := (Lg.le h).mono hm (Nat.le_refl _)
theorem lg_ch (n k : Nat) {m : Nat} (h : n < m) : Lg m (ch n k) := Lg.two (ch_two n k) h
theorem lg12 {x : Nat} (h : x < 4096) : Lg 12 x := ⟨h⟩
theorem lg_one {m : Nat} (h : 0 < m) : Lg m 1 := Lg.two (n := 0) (Nat.le_refl _) h
theorem cmulN {i j : Nat} {a b : Nat} (ha : Lg a i) (hb : Lg b j) (h0 : 0 < a) (h1 : 0 < b) (h : a + b ≤ 1000000) : CMulW (i : Int) (j : Int) := wide_mul (a := a) (b := b) (by simpa using ha.h) (by simpa using hb.h) h0 h1 h
theorem mul_w {i j : Int} {G : GH} {Q : DK} (e : CMulW i j) (h : Q (.int (i * j)) G) : rMulW (.int i) (.int j) G Q := ⟨e, h⟩
theorem fdiv_w {i j : Int} {G : GH} {Q : DK} (e : CDivW i j) (h : Q (.int (i / j)) G) : rFdivW (.int i) (.int j) G Q := ⟨e, h⟩
def RCh : List D → D → Prop := fun ds d => ∃ n k : Nat, ds = [.int (n : Int), .int (k : Int)] ∧ k ≤ n ∧ n ≤ 4000 ∧ d = .int (ch n k : Nat)
theorem choices_among_rd : ∀ ds G Q E, pSp RCh ds G Q E → r_choices_among { nx := fun _ G' => Q .non G', rt := Q } (startD 4 ds) G := by
  rintro ds G Q E ⟨d, ⟨n, k, rfl, hk, hn, rfl⟩, hq⟩
  unfold r_choices_among
  walk_at "ds"
  refine ⟨by omega, by omega, ?_⟩
  rw [rngD_map, show ((k : Int)).toNat = k from by omega]
  refine dForGo_of (I := fun rest ρ G1 => ∃ i, i ≤ k ∧ rest = ((List.range k).map fun i => D.int (0 + (i : Nat))).drop i ∧ Grow G G1 ∧ ∃ x, ρ = [some (.int n), some (.int k), some (.int (ch n i : Nat)), x]) ?_ ?_ _ _ _ ⟨0, Nat.zero_le _, rfl, Grow.refl _, none, by rw [ch_0]; rfl⟩
  · rintro ρ G1 ⟨i, hi, e, g, x, rfl⟩
    have : i = k := by
      have := congrArg List.length e
      rw [List.length_drop, List.length_map, List.length_range, List.length_nil] at this
      omega
    subst this
    refine ⟨trivial, ?_⟩
    walk_at "ds"
    exact hq _ g
  · rintro y rest ρ G1 ⟨i, hi, e, g, x, rfl⟩ K hK
    have hlt : i < k := by
      have := congrArg List.length e
      rw [List.length_drop, List.length_map, List.length_range, List.length_cons] at this
      omega
    rw [List.drop_eq_getElem_cons (by rw [List.length_map, List.length_range]; exact hlt)] at e
    injection e with e1 e2
    rw [List.getElem_map, List.getElem_range] at e1
    subst e1
    refine ⟨trivial, ?_⟩
    walk_at "ds"
    rw [show ((n : Int) - (0 + (i : Nat))) = ((n - i : Nat) : Int) from by omega]
    refine mul_w (cmulN (a := 4001) (b := 12) (lg_ch n i (by omega)) (lg12 (by omega)) (by decide) (by decide) (by decide)) ?_
    walk_at "ds"
    refine fdiv_w ⟨by omega, ?_⟩ ?_
    · have h5 : (0 + (i : Int) + 1).natAbs < 2 ^ 12 := (lg12 (by omega)).h
      exact Nat.lt_of_lt_of_le (PySem.Flt.log2_lt_of (by decide) h5) (by decide)
    walk_at "ds"
    have e3 : ((ch n i : Nat) : Int) * ((n - i : Nat) : Int) / (0 + (i : Int) + 1) = ((ch n (i + 1) : Nat) : Int) := by
      rw [show (0 + (i : Int) + 1) = ((i + 1 : Nat) : Int) from by omega, ← Int.natCast_mul, ch_b n i (by omega), ← Int.natCast_ediv, Nat.mul_div_cancel _ (by omega)]
    rw [e3]
    exact hK _ _ ⟨i + 1, hlt, e2, g, _, rfl⟩
end K22
namespace K22
open PySem L2 Dl K17 K18 K24 K20 K28 K27 K23
local macro_rules | `(tactic| walk_at "ds") => `(tactic| repeat' with_reducible first
  | refine iVar (by with_unfolding_all rfl) ?_
  | refine iCons ?_
  | refine iNil ?_
  | refine iC ?_
  | refine iOp ?_
  | refine iSeq ?_
  | refine iAsg ?_
  | refine iGNm ?_
  | refine iRet ?_
  | refine iCall ?_
  | refine iNewK ?_
  | refine dctP_i (by assumption) ?_
  | refine dctP_i updG_same ?_
  | refine iGTp (by with_unfolding_all rfl) ?_
  | refine iGsCons ?_
  | refine iGsNil ?_
  | refine iGSb ?_
  | refine iTru ?_
  | refine truB ?_
  | refine iIf ?_
  | refine ifT ?_
  | refine ifF ?_
  | refine add_ii ?_
  | refine iForI ?_
  | fail "stuck")
theorem forT (l0 : List (Nat × Nat)) {ok : GH → Prop} {g : DTG} {tb : DTS} {E : DEnds} {J : List (Nat × Nat) → DSt → GH → Prop} (h0 : ∀ ρ G, J [] ρ G → ok G ∧ E.nx ρ G)
    (h : ∀ q l ρ G, q ∈ l0 → (∀ x ∈ l, x ∈ l0) → J (q :: l) ρ G → ∀ K : DSt → GH → Prop, (∀ ρ' G', J l ρ' G' → K ρ' G') → ok G ∧ g (.tup [.int (q.1 : Nat), .int (q.2 : Nat)]) ρ G fun ρ2 G2 => tb { E with nx := K, ct := K, bk := E.nx } ρ2 G2) :
    ∀ ρ G, J l0 ρ G → dForGo ok g tb ((kvT l0).map fun p => D.tup [kyD p.1, p.2]) E ρ G := by
  intro ρ G j
  refine dForGo_of (I := fun rest ρ G => ∃ l, rest = ((kvT l).map fun p => D.tup [kyD p.1, p.2]) ∧ (∀ x ∈ l, x ∈ l0) ∧ J l ρ G) ?_ ?_ _ _ _ ⟨l0, rfl, fun _ h => h, j⟩
  · rintro ρ G ⟨l, e, _, j⟩
    cases l with
    | nil => exact h0 ρ G j
    | cons q l => cases e
  · rintro x xs ρ G ⟨l, e, hm, j⟩ K hK
    cases l with
    | nil => cases e
    | cons q l =>
      injection e with e1 e2
      subst e1
      exact h q l ρ G (hm q (List.mem_cons_self ..)) (fun x hx => hm x (List.mem_cons_of_mem _ hx)) j K fun ρ' G' j' => hK ρ' G' ⟨l, e2, fun x hx => hm x (List.mem_cons_of_mem _ hx), j'⟩
theorem iGet2 {td ty tx : DTE} {ρ : DSt} {G : GH} {Q : DK} (h : td ρ G fun x G1 => ∃ a kvs, x = .ref a ∧ G1 a = some (.dct kvs) ∧ ty ρ G1 fun y G2 => tx ρ G2 fun z G3 => ∃ kvs2 k, G3 a = some (.dct kvs2) ∧ keyD y = some k ∧ Q ((getK kvs2 k).getD z) G3) : dGet2 td ty tx ρ G Q := h
theorem set_kvT {p : Addr} {G : GH} {Q : GH → Prop} {l : List (Nat × Nat)} {k x : Nat} (hp : G p = some (.dct (kvT l))) (hn : (l.map (·.1)).Nodup) (hl : l.length < sizeLine) (h : Q (updG G p (.dct (kvT (bmp l k x))))) :
    sDct (.ref p) (.int (k : Int)) (.int ((lkT l k + x : Nat) : Int)) G Q := by
  show dctP G (.ref p) _
  refine dctP_i hp ?_
  refine ⟨by unfold kvT; rw [List.length_map]; exact hl, ?_⟩
  rw [put_kvT k x l hn]
  exact h
theorem upd_jn {E : DEnds} {x0 x1 x2 : Option D} {p : Addr} {i m j m2 c : Nat} {acc : List (Nat × Nat)} {G : GH} (hp : G p = some (.dct (kvT acc))) (hn : (acc.map (·.1)).Nodup) (hl : acc.length < sizeLine) (hm : Lg 1000 m) (hm2 : Lg 1000 m2) (hc : Lg 4000 c)
    (h : E.nx [x0, x1, x2, some (.ref p), some (.int (i : Nat)), some (.int (m : Nat)), some (.int (j : Nat)), some (.int (m2 : Nat)), some (.int (c : Nat))] (updG G p (.dct (kvT (bmp acc (i + j) (m * m2 * c)))))) :
    (dAsg (dOp rAdd (dGet2 (dVar 3) (dOp rAdd (dVar 4) (dVar 6)) (dC (.int 0))) (dOp rMulW (dOp rMulW (dVar 5) (dVar 7)) (dVar 8))) (gSb (dVar 3) (dOp rAdd (dVar 4) (dVar 6)) sDct)) E
      [x0, x1, x2, some (.ref p), some (.int (i : Nat)), some (.int (m : Nat)), some (.int (j : Nat)), some (.int (m2 : Nat)), some (.int (c : Nat))] G := by
  walk_at "ds"
  refine iGet2 ?_
  walk_at "ds"
  refine ⟨p, _, rfl, hp, ?_⟩
  walk_at "ds"
  refine ⟨_, _, hp, rfl, ?_⟩
  rw [show (i : Int) + (j : Int) = ((i + j : Nat) : Int) from by omega, get_kvT]
  walk_at "ds"
  refine mul_w (cmulN hm hm2 (by decide) (by decide) (by decide)) ?_
  walk_at "ds"
  rw [← Int.natCast_mul]
  refine mul_w (cmulN (hm.mul hm2) hc (by decide) (by decide) (by decide)) ?_
  walk_at "ds"
  rw [show (i : Int) + (j : Int) = ((i + j : Nat) : Int) from by omega, ← Int.natCast_mul, ← Int.natCast_add]
  exact set_kvT hp hn hl h
def cv (wv : Bool) (i j : Nat) : Nat := if wv = true then ch (i + j) i else 1
def spJn : DSp := fun ds G Q _ => ∃ (a b : Addr) (wv : Bool) (l1 l2 : List (Nat × Nat)) (V : Nat × Nat × Nat × Nat), ds = [.ref a, .ref b, .bl wv] ∧ a ≠ b ∧ G a = some (.dct (kvT l1)) ∧ G b = some (.dct (kvT l2)) ∧
  Tb l1 V.1 V.2.1 ∧ Tb l2 V.2.2.1 V.2.2.2 ∧ V.1 ≤ 1900 ∧ V.2.2.1 ≤ 1900 ∧ Lg 1000 V.2.1 ∧ Lg 1000 V.2.2.2 ∧
  ∀ p l G', Grow G G' → G p = none → G' p = some (.dct (kvT l)) → (l.map (·.1)).Nodup → (∀ x ∈ l, 1 ≤ x.2) → (∀ x ∈ l, x.1 ≤ V.1 + V.2.2.1) → (∀ f, tot l f = tot l1 fun i => tot l2 fun j => cv wv i j * f (i + j)) → Q (.ref p) G'
theorem cv_pos (wv : Bool) (i j : Nat) : 1 ≤ cv wv i j := by
  unfold cv; split
  · exact ch_pos _ _ (by omega)
  · exact Nat.le_refl _
theorem joined_rd : ∀ ds G Q E, spJn ds G Q E → r_joined (pSp RCh) { nx := fun _ G' => Q .non G', rt := Q } (startD 9 ds) G := by
  rintro ds G Q E ⟨a, b, wv, l1, l2, ⟨B1, V1, B2, V2⟩, rfl, hab, ha, hb, t1, t2, hB1, hB2, hV1, hV2, hq⟩
  dsimp only at t1 t2 hB1 hB2 hV1 hV2 hq
  unfold r_joined
  walk_at "ds"
  intro p hp
  have hpa : p ≠ a := fun e => by rw [e, ha] at hp; cases hp
  have hpb : p ≠ b := fun e => by rw [e, hb] at hp; cases hp
  have gp : Grow G (updG G p (.dct [])) := Grow.upd hp
  walk_at "ds"
  refine ⟨a, kvT l1, rfl, gp _ _ ha, fun u => ?_⟩
  have len1 := t1.len
  have len2 := t2.len
  refine forT l1 (J := fun r ρ G1 => ∃ acc x4 x5 x6 x7 x8, ρ = [some (.ref a), some (.ref b), some (.bl wv), some (.ref p), x4, x5, x6, x7, x8] ∧ G1 a = some (.raw u) ∧ (∀ c o, c ≠ a → G c = some o → G1 c = some o) ∧ G1 p = some (.dct (kvT acc)) ∧
    (acc.map (·.1)).Nodup ∧ (∀ x ∈ acc, 1 ≤ x.2) ∧ (∀ x ∈ acc, x.1 ≤ B1 + B2) ∧ ∀ f, tot acc f + (tot r fun i => tot l2 fun j => cv wv i j * f (i + j)) = tot l1 fun i => tot l2 fun j => cv wv i j * f (i + j)) ?_ ?_ _ _ ?_
  · rintro ρ G1 ⟨acc, x4, x5, x6, x7, x8, rfl, e1, e2, e3, n1, n2, n3, e4⟩
    refine ⟨e1, e1, ?_⟩
    walk_at "ds"
    have gg : Grow G (updG G1 a (.dct (kvT l1))) := fun c o hc => by
      by_cases h : c = a
      · subst h; rw [updG_same, ← ha, hc]
      · rw [updG_ne h]; exact e2 c o h hc
    exact hq p acc _ gg hp (by rw [updG_ne hpa]; exact e3) n1 n2 n3 fun f => by have := e4 f; rw [tot_nil] at this; omega
  · rintro ⟨i, m⟩ r ρ G1 hi hr ⟨acc, x4, x5, x6, x7, x8, rfl, e1, e2, e3, n1, n2, n3, e4⟩ K hK
    refine ⟨e1, ?_⟩
    have hiB := t1.bd _ hi
    have hm1 := t1.pos _ hi
    have hmV := t1.val hi
    dsimp only at hiB hm1 hmV
    walk_at "ds"
    refine ⟨b, kvT l2, rfl, e2 b _ hab.symm hb, fun u2 => ?_⟩
    have hba : b ≠ a := hab.symm
    refine forT l2 (J := fun r2 ρ G2 => ∃ acc x6 x7 x8, ρ = [some (.ref a), some (.ref b), some (.bl wv), some (.ref p), some (.int (i : Nat)), some (.int (m : Nat)), x6, x7, x8] ∧ G2 b = some (.raw u2) ∧ G2 a = some (.raw u) ∧ (∀ c o, c ≠ a → c ≠ b → G c = some o → G2 c = some o) ∧ G2 p = some (.dct (kvT acc)) ∧
      (acc.map (·.1)).Nodup ∧ (∀ x ∈ acc, 1 ≤ x.2) ∧ (∀ x ∈ acc, x.1 ≤ B1 + B2) ∧ ∀ f, tot acc f + m * (tot r2 fun j => cv wv i j * f (i + j)) + (tot r fun i => tot l2 fun j => cv wv i j * f (i + j)) = tot l1 fun i => tot l2 fun j => cv wv i j * f (i + j)) ?_ ?_ _ _ ?_
    · rintro ρ G2 ⟨acc, x6, x7, x8, rfl, f1, f2, f3, f4, k1, k2, k3, f5⟩
      refine ⟨f1, f1, ?_⟩
      refine hK _ _ ⟨acc, _, _, _, _, _, rfl, by rw [updG_ne hab]; exact f2, fun c o h1 h2 => ?_, by rw [updG_ne hpb]; exact f4, k1, k2, k3, fun f => by have := f5 f; rw [tot_nil] at this; omega⟩
      by_cases h : c = b
      · subst h; rw [updG_same, ← hb, h2]
      · rw [updG_ne h]; exact f3 c o h1 h h2
    · rintro ⟨j, m2⟩ r2 ρ G2 hj hr2 ⟨acc, x6, x7, x8, rfl, f1, f2, f3, f4, k1, k2, k3, f5⟩ K2 hK2
      refine ⟨f1, ?_⟩
      have hjB := t2.bd _ hj
      have hm2 := t2.pos _ hj
      have hm2V := t2.val hj
      dsimp only at hjB hm2 hm2V
      have hacc : acc.length ≤ 3801 := by
        have := (Tb.len (l := acc) (B := B1 + B2) (V := tot acc fun _ => 1) ⟨k1, k2, k3, Nat.le_refl _⟩)
        omega
      have hcv : Lg 4000 (cv wv i j) := by
        unfold cv; split
        · exact lg_ch _ _ (by omega)
        · exact lg_one (by decide)
      have nxK : ∀ G3, Grow G2 G3 → K2 [some (.ref a), some (.ref b), some (.bl wv), some (.ref p), some (.int (i : Nat)), some (.int (m : Nat)), some (.int (j : Nat)), some (.int (m2 : Nat)), some (.int (cv wv i j : Nat))] (updG G3 p (.dct (kvT (bmp acc (i + j) (m * m2 * cv wv i j))))) := fun G3 g3 => by
        refine hK2 _ _ ⟨_, _, _, _, rfl, ?_, ?_, fun c o h1 h2 h3 => ?_, updG_same, bmp_nd k1, fun x hx => ?_, fun x hx => ?_, fun f => ?_⟩
        · rw [updG_ne (Ne.symm hpb)]; exact g3 _ _ f1
        · rw [updG_ne (Ne.symm hpa)]; exact g3 _ _ f2
        · rw [updG_ne (fun z => by rw [z, hp] at h3; cases h3)]; exact g3 _ _ (f3 c o h1 h2 h3)
        · rcases bmp_mem hx with z | z
          · exact Nat.le_trans (Nat.mul_pos (Nat.mul_pos hm1 hm2) (cv_pos _ _ _)) z.2
          · exact k2 x z
        · rcases bmp_mem hx with z | z
          · rw [z.1]; omega
          · exact k3 x z
        · have := f5 f
          rw [tot_cons] at this
          rw [tot_bmp, ← this]
          dsimp only
          rw [Nat.mul_add, Nat.mul_assoc m, Nat.mul_assoc m, Nat.mul_assoc m2]
          omega
      have A1 := fun G3 (g3 : Grow G2 G3) => g3 _ _ f4
      have A2 : acc.length < sizeLine := Nat.lt_of_le_of_lt hacc (by decide)
      have A3 := hV1.mono (Nat.le_refl _) hmV
      have A4 := hV2.mono (Nat.le_refl _) hm2V
      walk_at "ds"
      cases wv with
      | false =>
        walk_at "ds"
        exact upd_jn (A1 _ (Grow.refl _)) k1 A2 A3 A4 hcv (nxK _ (Grow.refl _))
      | true =>
        walk_at "ds"
        refine ⟨_, ⟨i + j, i, by rw [show (i : Int) + (j : Int) = ((i + j : Nat) : Int) from by omega], by omega, by omega, rfl⟩, fun G3 g3 => ?_⟩
        walk_at "ds"
        exact upd_jn (A1 _ g3) k1 A2 A3 A4 hcv (nxK _ g3)
    · exact ⟨acc, _, _, _, rfl, updG_same, by rw [updG_ne hab]; exact e1, fun c o h1 h2 h3 => by rw [updG_ne h2]; exact e2 c o h1 h3, by rw [updG_ne hpb]; exact e3, n1, n2, n3, fun f => by have := e4 f; rw [tot_cons] at this; rw [← this]; dsimp only; omega⟩
  · refine ⟨[], _, _, _, _, _, rfl, updG_same, fun c o h1 h2 => by rw [updG_ne h1]; exact gp _ _ h2, by rw [updG_ne hpa]; exact updG_same, by simp, fun x hx => (by cases hx), fun x hx => (by cases hx), fun f => by rw [tot_nil]; omega⟩
end K22
namespace K22
open PySem L2 Dl K17 K18 K24 K20 K28 K27 K23
local macro_rules | `(tactic| walk_at "ds") => `(tactic| repeat' with_reducible first
  | refine iVar (by with_unfolding_all rfl) ?_
  | refine iC ?_
  | refine iOp ?_
  | refine iSeq ?_
  | refine iAsg ?_
  | refine iGNm ?_
  | refine iRet ?_
  | refine iNewK ?_
  | refine iGTp (by with_unfolding_all rfl) ?_
  | refine iGsCons ?_
  | refine iGsNil ?_
  | refine iGSb ?_
  | refine iFor ?_
  | refine iISq ?_
  | refine add_ii ?_
  | refine iForI ?_
  | fail "stuck")
def rfs (ts : List (Addr × List (Nat × Nat))) : List D := ts.map fun t => D.ref t.1
def spAd : DSp := fun ds G Q _ => ∃ (ts : List (Addr × List (Nat × Nat))) (B : Nat), ds = [.lst (rfs ts)] ∧ (∀ t ∈ ts, G t.1 = some (.dct (kvT t.2)) ∧ (t.2.map (·.1)).Nodup ∧ (∀ x ∈ t.2, 1 ≤ x.2) ∧ ∀ x ∈ t.2, x.1 ≤ B) ∧ B ≤ 4000 ∧
  ∀ p l G', Grow G G' → G p = none → G' p = some (.dct (kvT l)) → (l.map (·.1)).Nodup → (∀ x ∈ l, 1 ≤ x.2) → (∀ x ∈ l, x.1 ≤ B) → (∀ f, tot l f = sm ts fun t => tot t.2 f) → Q (.ref p) G'
theorem bd_len {l : List (Nat × Nat)} {B : Nat} (h1 : (l.map (·.1)).Nodup) (h2 : ∀ x ∈ l, 1 ≤ x.2) (h3 : ∀ x ∈ l, x.1 ≤ B) : l.length ≤ B + 1 := Tb.len (V := tot l fun _ => 1) ⟨h1, h2, h3, Nat.le_refl _⟩
theorem upd_ad {E : DEnds} {x0 x2 : Option D} {p : Addr} {i m : Nat} {acc : List (Nat × Nat)} {G : GH} (hp : G p = some (.dct (kvT acc))) (hn : (acc.map (·.1)).Nodup) (hl : acc.length < sizeLine)
    (h : E.nx [x0, some (.ref p), x2, some (.int (i : Nat)), some (.int (m : Nat))] (updG G p (.dct (kvT (bmp acc i m))))) :
    (dAsg (dOp rAdd (dGet2 (dVar 1) (dVar 3) (dC (.int 0))) (dVar 4)) (gSb (dVar 1) (dVar 3) sDct)) E [x0, some (.ref p), x2, some (.int (i : Nat)), some (.int (m : Nat))] G := by
  walk_at "ds"
  refine iGet2 ?_
  walk_at "ds"
  refine ⟨p, _, rfl, hp, ?_⟩
  walk_at "ds"
  refine ⟨_, _, hp, rfl, ?_⟩
  rw [get_kvT]
  walk_at "ds"
  rw [← Int.natCast_add]
  exact set_kvT hp hn hl h
theorem added_rd : ∀ ds G Q E, spAd ds G Q E → r_added { nx := fun _ G' => Q .non G', rt := Q } (startD 5 ds) G := by
  rintro ds G Q E ⟨ts, B, rfl, ht, hB, hq⟩
  unfold r_added
  walk_at "ds"
  intro p hp
  have gp : Grow G (updG G p (.dct [])) := Grow.upd hp
  walk_at "ds"
  refine dForGo_of (I := fun rest ρ G1 => ∃ rs acc x2 x3 x4, rest = rfs rs ∧ (∀ t ∈ rs, t ∈ ts) ∧ ρ = [some (.lst (rfs ts)), some (.ref p), x2, x3, x4] ∧ Grow G G1 ∧ G1 p = some (.dct (kvT acc)) ∧
    (acc.map (·.1)).Nodup ∧ (∀ x ∈ acc, 1 ≤ x.2) ∧ (∀ x ∈ acc, x.1 ≤ B) ∧ ∀ f, tot acc f + (sm rs fun t => tot t.2 f) = sm ts fun t => tot t.2 f) ?_ ?_ _ _ _ ?_
  · rintro ρ G1 ⟨rs, acc, x2, x3, x4, e, _, rfl, g1, e3, n1, n2, n3, e4⟩
    have : rs = [] := by cases rs with
      | nil => rfl
      | cons t rs => cases e
    subst this
    refine ⟨trivial, ?_⟩
    walk_at "ds"
    exact hq p acc G1 g1 hp e3 n1 n2 n3 fun f => by have := e4 f; rw [sm_nil] at this; omega
  · rintro y rest ρ G1 ⟨rs, acc, x2, x3, x4, e, hm, rfl, g1, e3, n1, n2, n3, e4⟩ K hK
    cases rs with
    | nil => cases e
    | cons t rs =>
      injection e with e1 e2
      subst e1
      obtain ⟨t1, t2, t3, t4⟩ := ht t (hm t (List.mem_cons_self ..))
      have hpt : p ≠ t.1 := fun z => by rw [z, t1] at hp; cases hp
      refine ⟨trivial, ?_⟩
      walk_at "ds"
      refine ⟨t.1, kvT t.2, rfl, g1 _ _ t1, fun u => ?_⟩
      refine forT t.2 (J := fun r ρ G2 => ∃ acc x3 x4, ρ = [some (.lst (rfs ts)), some (.ref p), some (.ref t.1), x3, x4] ∧ G2 t.1 = some (.raw u) ∧ (∀ c o, c ≠ t.1 → G c = some o → G2 c = some o) ∧ G2 p = some (.dct (kvT acc)) ∧
        (acc.map (·.1)).Nodup ∧ (∀ x ∈ acc, 1 ≤ x.2) ∧ (∀ x ∈ acc, x.1 ≤ B) ∧ ∀ f, tot acc f + tot r f + (sm rs fun t => tot t.2 f) = sm ts fun t => tot t.2 f) ?_ ?_ _ _ ?_
      · rintro ρ G2 ⟨acc, x3, x4, rfl, f1, f3, f4, k1, k2, k3, f5⟩
        refine ⟨f1, f1, ?_⟩
        refine hK _ _ ⟨rs, acc, _, _, _, e2, fun t ht => hm t (List.mem_cons_of_mem _ ht), rfl, fun c o h2 => ?_, ?_, k1, k2, k3, fun f => by have := f5 f; rw [tot_nil] at this; omega⟩
        · by_cases h : c = t.1
          · subst h; rw [updG_same, ← t1, h2]
          · rw [updG_ne h]; exact f3 c o h h2
        · rw [updG_ne hpt]; exact f4
      · rintro ⟨i, m⟩ r ρ G2 hi hr ⟨acc, x3, x4, rfl, f1, f3, f4, k1, k2, k3, f5⟩ K2 hK2
        refine ⟨f1, ?_⟩
        have hiB := t4 _ hi
        have hm1 := t3 _ hi
        dsimp only at hiB hm1
        have hacc := bd_len k1 k2 k3
        walk_at "ds"
        refine upd_ad f4 k1 (Nat.lt_of_le_of_lt (Nat.le_trans hacc (Nat.succ_le_succ hB)) (by decide)) ?_
        refine hK2 _ _ ⟨_, _, _, rfl, ?_, fun c o h1 h3 => ?_, updG_same, bmp_nd k1, fun x hx => ?_, fun x hx => ?_, fun f => ?_⟩
        · rw [updG_ne (Ne.symm hpt)]; exact f1
        · rw [updG_ne (fun z => by rw [z, hp] at h3; cases h3)]; exact f3 c o h1 h3
        · rcases bmp_mem hx with z | z
          · exact Nat.le_trans hm1 z.2
          · exact k2 x z
        · rcases bmp_mem hx with z | z
          · rw [z.1]; exact hiB
          · exact k3 x z
        · have := f5 f
          rw [tot_cons] at this
          rw [tot_bmp, ← this]
          dsimp only
          omega
      · exact ⟨acc, _, _, rfl, updG_same, fun c o h1 h2 => by rw [updG_ne h1]; exact g1 c o h2, by rw [updG_ne hpt]; exact e3, n1, n2, n3, fun f => by have := e4 f; rw [sm_cons] at this; omega⟩
  · exact ⟨ts, [], _, _, _, rfl, fun _ h => h, rfl, gp, updG_same, by simp, fun x hx => (by cases hx), fun x hx => (by cases hx), fun f => by rw [tot_nil]; omega⟩
def spLo : DSp := fun ds G Q _ => ∃ (a : Addr) (m : Nat) (l : List (Nat × Nat)) (B : Nat), ds = [.ref a, .int (m : Nat)] ∧ G a = some (.dct (kvT l)) ∧ (l.map (·.1)).Nodup ∧ (∀ x ∈ l, 1 ≤ x.2) ∧ (∀ x ∈ l, x.1 ≤ B) ∧ B ≤ 4000 ∧
  ∀ p l' G', Grow G G' → G p = none → G' p = some (.dct (kvT l')) → (l'.map (·.1)).Nodup → (∀ x ∈ l', 1 ≤ x.2) → (∀ x ∈ l', x.1 ≤ B + m) → (∀ f, tot l' f = tot l fun k => f (k + m)) → Q (.ref p) G'
theorem lk_no {k : Nat} : ∀ {l : List (Nat × Nat)}, (∀ x ∈ l, x.1 ≠ k) → lkT l k = 0
  | [], _ => rfl
  | p :: l, h => by rw [lkT, if_neg (h p (List.mem_cons_self ..))]; exact lk_no fun x hx => h x (List.mem_cons_of_mem _ hx)
theorem longer_rd : ∀ ds G Q E, spLo ds G Q E → r_longer { nx := fun _ G' => Q .non G', rt := Q } (startD 4 ds) G := by
  rintro ds G Q E ⟨a, m, l, B, rfl, ha, t2, t3, t4, hB, hq⟩
  unfold r_longer
  walk_at "ds"
  refine iDcI rfl ha fun u p hp => ?_
  have hap : a ≠ p := fun z => by rw [← z, updG_same] at hp; cases hp
  have hp0 : G p = none := by rw [updG_ne (Ne.symm hap)] at hp; exact hp
  have key : ∀ (r acc : List (Nat × Nat)) (G1 : GH), (r.map (·.1)).Nodup → (∀ x ∈ r, x ∈ l) → (∀ x ∈ acc, ∀ y ∈ r, x.1 ≠ y.1 + m) → G1 a = some (.raw u) → (∀ c o, c ≠ a → G c = some o → G1 c = some o) → G1 p = some (.dct (kvT acc)) → (acc.map (·.1)).Nodup → (∀ x ∈ acc, 1 ≤ x.2) → (∀ x ∈ acc, x.1 ≤ B + m) → acc.length + r.length ≤ 4001 → (∀ f, tot acc f + (tot r fun k => f (k + m)) = tot l fun k => f (k + m)) →
      dDcGo (fun G => G a = some (.raw u)) (.tup [2, 3]) dYes (dOp rAdd (dVar 2) (dVar 1)) (dVar 3) (wipeD (startD 4 [.ref a, .int (m : Nat)]) [2, 3]) p ((kvT r).map fun p => D.tup [kyD p.1, p.2]) G1 (fun d G' => G' a = some (.raw u) ∧ Q d (updG G' a (.dct (kvT l)))) := by
    intro r
    induction r with
    | nil =>
      intro acc G1 _ _ _ e1 e2 e3 n1 n2 n3 _ e4
      show dDcGo _ _ _ _ _ _ p [] G1 _
      unfold dDcGo
      refine ⟨e1, e1, ?_⟩
      refine hq p acc _ (fun c o h2 => ?_) hp0 (by rw [updG_ne (Ne.symm hap)]; exact e3) n1 n2 n3 fun f => by have := e4 f; rw [tot_nil] at this; omega
      by_cases h : c = a
      · subst h; rw [updG_same, ← ha, h2]
      · rw [updG_ne h]; exact e2 c o h h2
    | cons q r ih =>
      intro acc G1 hn hm hx e1 e2 e3 n1 n2 n3 hl e4
      rw [List.map_cons, List.nodup_cons] at hn
      have hq1 := hm q (List.mem_cons_self ..)
      have hb := t4 q hq1
      have hps := t3 q hq1
      rw [List.length_cons] at hl
      have hk : ∀ x ∈ acc, x.1 ≠ q.1 + m := fun x hx' => hx x hx' q (List.mem_cons_self ..)
      have nx := ih (bmp acc (q.1 + m) q.2) (updG G1 p (.dct (kvT (bmp acc (q.1 + m) q.2)))) hn.2 (fun x h => hm x (List.mem_cons_of_mem _ h)) (fun x hx' y hy => by
          rcases bmp_mem hx' with z | z
          · rw [z.1]
            intro e
            have : q.1 = y.1 := by omega
            exact hn.1 (List.mem_map.mpr ⟨y, hy, this.symm⟩)
          · exact hx x z y (List.mem_cons_of_mem _ hy)) (by rw [updG_ne hap]; exact e1) (fun c o h1 h2 => by rw [updG_ne (fun z => by rw [z, hp0] at h2; cases h2)]; exact e2 c o h1 h2) updG_same (bmp_nd n1) (fun x hx' => by
          rcases bmp_mem hx' with z | z
          · exact Nat.le_trans hps z.2
          · exact n2 x z) (fun x hx' => by
          rcases bmp_mem hx' with z | z
          · rw [z.1]; omega
          · exact n3 x z) (by have := bmp_len (k := q.1 + m) (x := q.2) (l := acc); omega) (fun f => by
          have := e4 f
          rw [tot_cons] at this
          rw [tot_bmp, ← this]
          omega)
      show dDcGo _ _ _ _ _ _ p (D.tup [.int (q.1 : Nat), .int (q.2 : Nat)] :: ((kvT r).map fun p => D.tup [kyD p.1, p.2])) G1 _
      unfold dDcGo
      refine ⟨e1, ?_⟩
      show dYes _ G1 _
      unfold dYes
      dsimp only
      rw [if_pos rfl]
      walk_at "ds"
      rw [e3]
      dsimp only
      rw [show (q.1 : Int) + (m : Int) = ((q.1 + m : Nat) : Int) from by omega]
      refine ⟨?_, ?_⟩
      · unfold kvT; rw [List.length_map]; exact Nat.lt_of_le_of_lt (m := 4001) (by omega) (by decide)
      · have e5 := put_kvT (q.1 + m) q.2 acc n1
        rw [lk_no hk, Nat.zero_add] at e5
        rw [e5]
        exact nx
  have len := bd_len t2 t3 t4
  exact key l [] _ t2 (fun _ h => h) (fun x hx => (by cases hx)) (by rw [updG_ne hap]; exact updG_same) (fun c o h1 h2 => by rw [updG_ne (fun z => by rw [z, hp0] at h2; cases h2), updG_ne h1]; exact h2) updG_same (by simp) (fun x hx => (by cases hx)) (fun x hx => (by cases hx)) (by simp only [List.length_nil]; omega) fun f => by rw [tot_nil]; omega
end K22
namespace K22
open PySem L2 Dl K17 K18 K24 K20 K28 K27 K23
local macro_rules | `(tactic| walk_at "ds") => `(tactic| repeat' with_reducible first
  | refine iVar (by with_unfolding_all rfl) ?_
  | refine iCons ?_
  | refine iNil ?_
  | refine iC ?_
  | refine iOp ?_
  | refine iSeq ?_
  | refine iAsg ?_
  | refine iGNm ?_
  | refine iFrz ?_
  | refine iTst ?_
  | refine iIfS ?_
  | refine iRet ?_
  | refine iLst ?_
  | refine iNext ?_
  | refine lstP_i (by assumption) ?_
  | refine lstP_i updG_same ?_
  | refine iCallG ?_
  | refine iDrop ?_
  | refine lenOk (by with_unfolding_all rfl) ?_
  | refine iMt ?_
  | refine iFor ?_
  | refine add_ii ?_
  | refine int0 ?_
  | refine iIRg1 ?_
  | refine iPsC ?_
  | refine iPsN ?_
  | fail "stuck")
theorem tot_lin (l : List (Nat × Nat)) : Lin (tot l) := by
  refine ⟨fun f g => ?_, ?_⟩
  · unfold tot
    rw [← sm_add]
    exact sm_congr fun p _ => Nat.mul_add _ _ _
  · unfold tot
    rw [show (fun p : Nat × Nat => p.2 * 0) = fun _ => 0 from funext fun p => Nat.mul_zero _]
    exact sm_zero l
theorem evP_snoc (body : (Nat → Nat) → Nat) : ∀ (k : Nat) (f : Nat → Nat), evP body k (fun i => body fun j => f (i + j)) = evP body (k + 1) f
  | 0, f => by rw [evP, evP]; simp only [Nat.zero_add, evP, Nat.add_zero]
  | k + 1, f => by
    rw [evP, evP]
    congr 1; funext i
    rw [← evP_snoc body k]
    congr 1; funext j
    congr 1; funext j2
    rw [Nat.add_assoc]
theorem evP_congr {b1 b2 : (Nat → Nat) → Nat} (h : ∀ f, b1 f = b2 f) (k : Nat) (f : Nat → Nat) : evP b1 k f = evP b2 k f := by rw [show b1 = b2 from funext h]
theorem rg_snoc {a : Int} {k : Nat} (h0 : 0 ≤ a) (h : a ≤ k) : rgN a k = rgN a ((k : Int) - 1) ++ [k] := by
  unfold rgN
  rw [show ((k : Int) + 1 - a).toNat = ((k : Int) - 1 + 1 - a).toNat + 1 from by omega, List.range_succ, List.map_append]
  congr 1
  simp only [List.map_cons, List.map_nil, List.cons.injEq, and_true]
  omega
def TbAt (G : GH) (B : Nat) (t : Addr × List (Nat × Nat)) : Prop := G t.1 = some (.dct (kvT t.2)) ∧ (t.2.map (·.1)).Nodup ∧ (∀ x ∈ t.2, 1 ≤ x.2) ∧ ∀ x ∈ t.2, x.1 ≤ B
theorem TbAt.grow {G G' : GH} {B : Nat} {t : Addr × List (Nat × Nat)} (h : TbAt G B t) (g : Grow G G') : TbAt G' B t := ⟨g _ _ h.1, h.2⟩
theorem TbAt.mono {G : GH} {B B' : Nat} {t : Addr × List (Nat × Nat)} (h : TbAt G B t) (g : B ≤ B') : TbAt G B' t := ⟨h.1, h.2.1, h.2.2.1, fun x hx => Nat.le_trans (h.2.2.2 x hx) g⟩
def spRt : DSp := fun ds G Q _ => ∃ (a b : Int) (t : Addr) (l : List (Nat × Nat)) (V : Nat × Nat), ds = [.int a, .int b, .ref t] ∧ 0 ≤ a ∧ a ≤ b ∧ b ≤ 12 ∧ TbAt G V.1 (t, l) ∧ (b.toNat + 1) * V.1 ≤ 1900 ∧ tot l (fun _ => 1) ≤ 2 ^ V.2 ∧ (b.toNat + 1) * V.2 ≤ 900 ∧
  ∀ ts G', Grow G G' → (∀ t ∈ ts, TbAt G' (b.toNat * V.1) t) → (∀ f, (sm ts fun t => tot t.2 f) = sm (rgN a b) fun k => evP (tot l) k f) → Q (.lst (rfs ts)) G'
theorem tb1 (f : Nat → Nat) : tot [(0, 1)] f = f 0 := by rw [tot_cons, tot_nil]; simp
theorem round_tables_rd : ∀ ds G Q E, spRt ds G Q E → r_round_tables spJn { nx := fun _ G' => Q .non G', rt := Q } (startD 6 ds) G := by
  rintro ds G Q E ⟨a, b, t, l, ⟨B, x⟩, rfl, h0, h1, h2, ⟨ht, t2, t3, t4⟩, hB, hV, hX, hq⟩
  dsimp only at hB hV hX hq t2 t3 t4 ht
  unfold r_round_tables
  walk_at "ds"
  intro pf hpf
  have htf : t ≠ pf := fun z => by rw [← z, ht] at hpf; cases hpf
  walk_at "ds"
  refine iDisp fun p0 hp0 => ?_
  have h0f : p0 ≠ pf := fun z => by rw [z, updG_same] at hp0; cases hp0
  walk_at "ds"
  refine dispEnd updG_same rfl (by decide) ?_
  walk_at "ds"
  refine ⟨by omega, by omega, ?_⟩
  rw [rngD_map, updG_updG]
  have hb1 : (b + 1).toNat = b.toNat + 1 := by omega
  have hp00 : G p0 = none := by rw [updG_ne h0f] at hp0; exact hp0
  have V0 : Lg 1000 (tot l fun _ => 1) := Lg.two hV (by
    have : 1 * x ≤ (b.toNat + 1) * x := Nat.mul_le_mul_right _ (by omega)
    omega)
  have hB1 : B ≤ 1900 := by
    have : 1 * B ≤ (b.toNat + 1) * B := Nat.mul_le_mul_right _ (by omega)
    omega
  refine dForGo_of (I := fun rest ρ G1 => ∃ k h hl ts x5, k ≤ b.toNat + 1 ∧ rest = ((List.range (b + 1).toNat).map fun i => D.int (0 + (i : Nat))).drop k ∧ ρ = [some (.int a), some (.int b), some (.ref t), some (.ref pf), some (.ref h), x5] ∧
    Grow G G1 ∧ G h = none ∧ TbAt G1 (k * B) (h, hl) ∧ (∀ f, tot hl f = evP (tot l) k f) ∧ G1 pf = some (.lst (rfs ts)) ∧ (∀ t ∈ ts, TbAt G1 (b.toNat * B) t) ∧ ts.length ≤ k ∧ ∀ f, (sm ts fun t => tot t.2 f) = sm (rgN a ((k : Int) - 1)) fun k => evP (tot l) k f) ?_ ?_ _ _ _ ?_
  · rintro ρ G1 ⟨k, h, hl, ts, x5, hk, e, rfl, g1, hn, hh, hf, e1, e2, e3, e4⟩
    have hk2 : k = b.toNat + 1 := by
      have := congrArg List.length e
      rw [List.length_drop, List.length_map, List.length_range, List.length_nil] at this
      omega
    refine ⟨trivial, ?_⟩
    walk_at "ds"
    refine frzR e1 ?_
    have gd : Grow G (dropG G1 pf) := Grow.drop hpf g1
    refine hq ts _ gd (fun t ht => ?_) fun f => ?_
    · obtain ⟨z1, z2⟩ := e2 t ht
      refine ⟨?_, z2⟩
      rw [dropG_ne (fun z => by rw [z, e1] at z1; cases z1)]
      exact z1
    · rw [e4 f, hk2, show (((b.toNat + 1 : Nat) : Int) - 1) = b from by omega]
  · rintro y rest ρ G1 ⟨k, h, hl, ts, x5, hk, e, rfl, g1, hn, hh, hf, e1, e2, e3, e4⟩ K hK
    have hlt : k < b.toNat + 1 := by
      have := congrArg List.length e
      rw [List.length_drop, List.length_map, List.length_range, List.length_cons] at this
      omega
    rw [List.drop_eq_getElem_cons (by rw [List.length_map, List.length_range]; omega)] at e
    injection e with e5 e6
    rw [List.getElem_map, List.getElem_range] at e5
    subst e5
    refine ⟨trivial, ?_⟩
    have hht : h ≠ t := fun z => by rw [z, ht] at hn; cases hn
    have hkB : k * B ≤ 1900 := Nat.le_trans (Nat.mul_le_mul_right _ (by omega)) hB
    have hkX : k * x ≤ 900 := Nat.le_trans (Nat.mul_le_mul_right _ (by omega)) hX
    have hV1 : tot hl (fun _ => 1) ≤ 2 ^ (k * x) := by rw [hf]; exact evP_one (tot_lin l) hV k
    have nx : ∀ (ts2 : List (Addr × List (Nat × Nat))) (G2 : GH), Grow G G2 → TbAt G2 (k * B) (h, hl) → G2 pf = some (.lst (rfs ts2)) → (∀ t ∈ ts2, TbAt G2 (b.toNat * B) t) → ts2.length ≤ k + 1 → (∀ f, (sm ts2 fun t => tot t.2 f) = sm (rgN a (((k + 1 : Nat) : Int) - 1)) fun k => evP (tot l) k f) →
        (dAsg (dCallG spJn 2 0 [(0, 0), (0, 1), (1, 0)] [.bl false] (dCons (dVar 4) (dCons (dVar 2) dNil)) dNil) (gNm 4)) { nx := K, rt := Q, ct := K, bk := fun ρ G => (dRet (dFrz (dVar 3))) { nx := fun _ G' => Q .non G', rt := Q } ρ G }
          [some (.int a), some (.int b), some (.ref t), some (.ref pf), some (.ref h), some (.int (0 + (k : Nat)))] G2 := by
      intro ts2 G2 g2 hh2 e1' e2' e3' e4'
      walk_at "ds"
      refine ⟨rfl, rfl, ?_⟩
      refine ⟨h, t, false, hl, l, ⟨k * B, tot hl fun _ => 1, B, tot l fun _ => 1⟩, rfl, hht, hh2.1, g2 _ _ ht, ⟨hh2.2.1, hh2.2.2.1, hh2.2.2.2, Nat.le_refl _⟩, ⟨t2, t3, t4, Nat.le_refl _⟩, hkB, hB1, Lg.two hV1 (by omega), V0, ?_⟩
      intro p l' G3 g3 hp3 d3 n1 n2 n3 n4
      dsimp only at n3
      refine hK _ _ ⟨k + 1, p, l', ts2, _, by omega, e6, rfl, g2.trans g3, ?_, ⟨d3, n1, n2, fun x hx => ?_⟩, fun f => ?_, g3 _ _ e1', fun t ht => (e2' t ht).grow g3, e3', e4'⟩
      · cases q : G p with
        | none => rfl
        | some o => rw [g2 _ _ q] at hp3; cases hp3
      · rw [Nat.succ_mul]; exact n3 x hx
      · rw [n4 f, ← evP_snoc, ← hf]
        congr 1; funext i
        congr 1; funext j
        show (if false = true then ch (i + j) i else 1) * f (i + j) = _
        rw [if_neg (by decide), Nat.one_mul]
    walk_at "ds"
    refine ifD (fun hc => ?_) (fun hc => ?_)
    · have hc' : a ≤ (k : Int) := by omega
      walk_at "ds"
      have hh2 : ∀ t : Addr × List (Nat × Nat), ∀ B', TbAt G1 B' t → TbAt (updG G1 pf (.lst (rfs ts ++ [.ref h]))) B' t := fun t B' ⟨z1, z2⟩ => ⟨by rw [updG_ne (fun z => by rw [z, e1] at z1; cases z1)]; exact z1, z2⟩
      refine app_i e1 (by unfold rfs; rw [List.length_map]; exact Nat.lt_of_le_of_lt (m := 13) (by omega) (by decide)) ?_
      walk_at "ds"
      refine nx (ts ++ [(h, hl)]) _ (fun c o hc => by rw [updG_ne (fun z => by rw [z, hpf] at hc; cases hc)]; exact g1 _ _ hc) (hh2 _ _ hh) ?_ (fun t ht => ?_) (by rw [List.length_append, List.length_singleton]; omega) fun f => ?_
      · rw [updG_same]; unfold rfs; rw [List.map_append]; rfl
      · rcases List.mem_append.mp ht with z | z
        · exact hh2 _ _ (e2 t z)
        · rw [List.mem_singleton] at z; subst z
          exact hh2 _ _ (hh.mono (Nat.mul_le_mul_right _ (by omega)))
      · rw [show (((k + 1 : Nat) : Int) - 1) = (k : Int) from by omega, rg_snoc h0 hc', sm_app, sm_app, e4 f, sm_cons, sm_nil, sm_cons, sm_nil]
        dsimp only
        rw [hf f]
    · have hc' : (k : Int) < a := by omega
      walk_at "ds"
      refine nx ts _ g1 hh e1 e2 (by omega) fun f => ?_
      rw [e4 f, rg_none (by omega), rg_none (by omega)]
  · refine ⟨0, p0, [(0, 1)], [], _, Nat.zero_le _, rfl, rfl, fun c o hc => ?_, hp00, ⟨updG_same, by simp, ?_, ?_⟩, fun f => by rw [tb1, evP], ?_, fun t ht => (by cases ht), Nat.le_refl _, fun f => by rw [rg_none (by omega)]; rfl⟩
    · rw [updG_ne (fun z => by rw [z, hp00] at hc; cases hc), updG_ne (fun z => by rw [z, hpf] at hc; cases hc)]; exact hc
    · intro x hx; rw [List.mem_singleton] at hx; subst hx; exact Nat.le_refl _
    · intro x hx; rw [List.mem_singleton] at hx; subst hx; exact Nat.zero_le _
    · rw [updG_ne (Ne.symm h0f), updG_same]; rfl
end K22
namespace K22
open PySem L2 Dl K17 K18 K24 K20 K28 K27 K23
local macro_rules | `(tactic| walk_at "ds") => `(tactic| repeat' with_reducible first
  | refine iVar (by with_unfolding_all rfl) ?_
  | refine iCons ?_
  | refine iNil ?_
  | refine iC ?_
  | refine iOp ?_
  | refine iSeq ?_
  | refine iAsg ?_
  | refine iGNm ?_
  | refine iFrz ?_
  | refine iRet ?_
  | refine iCall ?_
  | refine iCallG ?_
  | refine iTru ?_
  | refine truB ?_
  | refine iIf ?_
  | refine ifT ?_
  | refine ifF ?_
  | refine iMatch ?_
  | refine iFor ?_
  | refine iISq ?_
  | refine rIx_i (by with_unfolding_all rfl) (by with_unfolding_all rfl) ?_
  | refine rIx_i (by with_unfolding_all rfl) atI_0 ?_
  | refine caT ?_
  | refine caF (by with_unfolding_all rfl) ?_
  | refine caN ?_
  | refine add_ii ?_
  | refine iIRg2 ?_
  | refine iPsC ?_
  | refine iPsN ?_
  | fail "stuck")
def spLT (n : Nat) : DSp := fun ds G Q _ => ∃ w, ds = [toD w] ∧ okW 12 w ∧ zW w ≤ 270 ∧ xW w ≤ 900 ∧ dpW w ≤ n ∧
  ∀ p l G', Grow G G' → G p = none → TbAt G' (mW w) (p, l) → (∀ f, tot l f = ev w f) → Q (.ref p) G'
theorem noLT0 (ds : List D) (G : GH) (Q : DK) (E : DXK) : ¬ spLT 0 ds G Q E := fun ⟨w, _, _, _, _, h, _⟩ => by cases w <;> simp only [dpW] at h <;> omega
theorem grow_none {G G' : GH} (g : Grow G G') {p : Addr} (h : G' p = none) : G p = none := by
  cases q : G p with
  | none => rfl
  | some o => rw [g _ _ q] at h; cases h
theorem dc_some {ρ0 : DSt} {a : Nat} {p : Addr} {G0 : GH} {Q : DK} {x0 x1 x2 x3 x4 : Option D} (hp : G0 p = none) : ∀ (n s : Nat) (acc : List (Nat × Nat)) (G1 : GH),
    (∀ c o, G0 c = some o → G1 c = some o) → G1 p = some (.dct (kvT acc)) → (acc.map (·.1)).Nodup → (∀ x ∈ acc, 1 ≤ x.2) → (∀ x ∈ acc, x.1 ≤ s) → acc.length + n ≤ 4000 →
    (∀ l G', (∀ c o, G0 c = some o → G' c = some o) → G' p = some (.dct (kvT l)) → (l.map (·.1)).Nodup → (∀ x ∈ l, 1 ≤ x.2) → (∀ x ∈ l, x.1 ≤ s + n) → (∀ f, tot l f = tot acc f + sm (List.range n) fun i => f (s + i + 1)) → Q (.ref p) G') →
    dDcGo okAll (.one 1) dYes (dOp rAdd (dVar 1) (dC (.int 1))) (dC (.int 1)) [x0, x1, x2, x3, x4] p ((List.range n).map fun i => D.int ((s : Int) + (i : Nat))) G1 Q
  | 0, s, acc, G1, h1, h2, h3, h4, h5, _, hq => by
    show dDcGo _ _ _ _ _ _ p [] G1 _
    unfold dDcGo
    exact ⟨trivial, hq acc G1 h1 h2 h3 h4 h5 fun f => by rw [List.range_zero, sm_nil]; omega⟩
  | n + 1, s, acc, G1, h1, h2, h3, h4, h5, h6, hq => by
    have hk : ∀ x ∈ acc, x.1 ≠ s + 1 := fun x hx => by have := h5 x hx; omega
    have nx := dc_some (ρ0 := ρ0) (a := a) (x0 := x0) (x1 := x1) (x2 := x2) (x3 := x3) (x4 := x4) (Q := Q) hp n (s + 1) (bmp acc (s + 1) 1) (updG G1 p (.dct (kvT (bmp acc (s + 1) 1))))
      (fun c o hc => by rw [updG_ne (fun z => by rw [z, hp] at hc; cases hc)]; exact h1 c o hc) updG_same (bmp_nd h3) (fun x hx => by
        rcases bmp_mem hx with z | z
        · exact z.2
        · exact h4 x z) (fun x hx => by
        rcases bmp_mem hx with z | z
        · rw [z.1]; exact Nat.le_refl _
        · have := h5 x z; omega) (by have := bmp_len (k := s + 1) (x := 1) (l := acc); omega) (fun l G' g1 g2 g3 g4 g5 g6 => hq l G' g1 g2 g3 g4 (fun x hx => by have := g5 x hx; omega) fun f => by
        rw [g6 f, tot_bmp, List.range_succ_eq_map, sm_cons, sm_map, Nat.one_mul]
        rw [show (fun i => f (s + 1 + i + 1)) = fun x => f (s + x.succ + 1) from funext fun i => by congr 1; omega]
        rw [show s + 0 + 1 = s + 1 from rfl]
        omega)
    rw [List.range_succ_eq_map, List.map_cons, List.map_map]
    rw [show ((List.range n).map ((fun i : Nat => D.int ((s : Int) + (i : Nat))) ∘ Nat.succ)) = (List.range n).map fun i : Nat => D.int (((s + 1 : Nat) : Int) + (i : Nat)) from List.map_congr_left fun i _ => by
      show D.int _ = D.int _
      congr 1
      simp only [Nat.succ_eq_add_one]
      omega]
    unfold dDcGo
    refine ⟨trivial, ?_⟩
    show dYes _ G1 _
    unfold dYes
    dsimp only
    rw [if_pos rfl]
    walk_at "ds"
    rw [h2]
    dsimp only
    rw [show (s : Int) + ((0 : Nat) : Int) + 1 = ((s + 1 : Nat) : Int) from by omega]
    refine ⟨?_, ?_⟩
    · unfold kvT; rw [List.length_map]; exact Nat.lt_of_le_of_lt (m := 4001) (by omega) (by decide)
    · have e5 := put_kvT (s + 1) 1 acc h3
      rw [lk_no hk, Nat.zero_add] at e5
      rw [show (D.int 1 : D) = D.int ((1 : Nat) : Int) from rfl, e5]
      exact nx
theorem xE_mem : ∀ {ws : List Wk} {w : Wk}, w ∈ ws → xW w ≤ xE ws
  | x :: xs, w, h => by
    rcases List.mem_cons.mp h with e | e
    · subst e; simp only [xE]; omega
    · have := xE_mem e; simp only [xE]; omega
theorem xR_mem : ∀ {ws : List Wk} {w : Wk}, w ∈ ws → xW w ≤ xR ws
  | x :: xs, w, h => by
    rcases List.mem_cons.mp h with e | e
    · subst e; simp only [xR]; omega
    · have := xR_mem e; simp only [xR]; omega
theorem lg_ev {w : Wk} (ho : okW 12 w) (hx : xW w ≤ 900) : Lg 1000 (ev w fun _ => 1) := Lg.two (ev_num w ho) (by omega)
theorem mW_le {w : Wk} (ho : okW 12 w) (hz : zW w ≤ 270) : mW w ≤ 1890 := by have := m_le_z w ho; omega
theorem length_table_rd {n : Nat} : ∀ ds G Q E, spLT (n + 1) ds G Q E → r_length_table spJn (spLT n) spLo spAd spRt { nx := fun _ G' => Q .non G', rt := Q } (startD 5 ds) G := by
  rintro ds G Q E ⟨w, rfl, ho, hz, hx, hd, hq⟩
  unfold r_length_table
  cases w with
  | tick k =>
    rw [okW] at ho
    rw [toD]; walk_at "ds"
    refine iDisp fun p hp => ?_
    walk_at "ds"
    refine dispEnd updG_same rfl rfl ?_
    rw [updG_updG]
    have e : mergeD [] [((Sum.inl k : Key), D.int 1)] = kvT [(k.toNat, 1)] := by
      simp only [mergeD, putD, kvT, List.any_nil, List.nil_append, List.map_cons, List.map_nil]
      rw [if_neg (by decide), show ((k.toNat : Nat) : Int) = k from by omega]; rfl
    refine hq p [(k.toNat, 1)] _ (Grow.upd hp) hp ⟨?_, by simp, fun x hx => ?_, fun x hx => ?_⟩ fun f => ?_
    · rw [updG_same, ← e]
    · rw [List.mem_singleton] at hx; subst hx; exact Nat.le_refl _
    · rw [List.mem_singleton] at hx; subst hx; rw [mW]; exact Nat.le_refl _
    · rw [tot_cons, tot_nil, ev]; simp
  | sme a b t =>
    rw [okW] at ho
    rw [toD]; walk_at "ds"
    refine iDc ?_
    walk_at "ds"
    refine ⟨⟨by omega, by omega, by omega, by omega⟩, fun p hp => ?_⟩
    rw [rngD_map, show (fun i : Nat => D.int (a + (i : Nat))) = fun i : Nat => D.int (((a.toNat : Nat) : Int) + (i : Nat)) from funext fun i => by rw [show ((a.toNat : Nat) : Int) = a from by omega]]
    refine dc_some (ρ0 := []) (a := 0) hp (b + 1 - a).toNat a.toNat [] _ (fun c o hc => Grow.upd hp _ _ hc) updG_same (by simp) (fun x hx => (by cases hx)) (fun x hx => (by cases hx)) (by simp only [List.length_nil]; omega) fun l G' g1 g2 g3 g4 g5 g6 => ?_
    refine hq p l G' g1 hp ⟨g2, g3, g4, fun x hx => by have := g5 x hx; rw [mW]; omega⟩ fun f => ?_
    rw [g6, tot_nil, Nat.zero_add, ev]
    unfold rgN
    rw [sm_map]
  | lop a b t w =>
    have hm := mW_le ho hz
    have ho' := ho
    rw [okW] at ho
    have hz' := hz
    rw [zW] at hz
    rw [dpW] at hd
    rw [xW] at hx
    have hz1 : 1 * (zW w + 1) ≤ (b.toNat + 1) * (zW w + 1) := Nat.mul_le_mul_right _ (by omega)
    have hx1 : 1 * xW w ≤ (b.toNat + 1) * xW w := Nat.mul_le_mul_right _ (by omega)
    have hmz := m_le_z w ho.2.2.2
    have hB : (b.toNat + 1) * (mW w + 1) ≤ 1900 := by
      have h1 : (b.toNat + 1) * (mW w + 1) ≤ (b.toNat + 1) * (7 * (zW w + 1)) := Nat.mul_le_mul_left _ (by omega)
      rw [show (b.toNat + 1) * (7 * (zW w + 1)) = 7 * ((b.toNat + 1) * (zW w + 1)) from by rw [Nat.mul_left_comm]] at h1
      omega
    have hB0 : (b.toNat + 1) * mW w ≤ (b.toNat + 1) * (mW w + 1) := Nat.mul_le_mul_left _ (by omega)
    have hB1 : 1 * (mW w + 1) ≤ (b.toNat + 1) * (mW w + 1) := Nat.mul_le_mul_right _ (by omega)
    have hbb : b.toNat * (mW w + 1) ≤ (b.toNat + 1) * (mW w + 1) := Nat.mul_le_mul_right _ (by omega)
    have hb0 : b.toNat * mW w ≤ b.toNat * (mW w + 1) := Nat.mul_le_mul_left _ (by omega)
    rw [toD]; walk_at "ds"
    refine ⟨w, rfl, ho.2.2.2, by omega, by omega, by omega, fun p1 l1 G1 g1 n1 t1 f1 => ?_⟩
    have hV1 : tot l1 (fun _ => 1) ≤ 2 ^ xW w := by rw [f1]; exact ev_num w ho.2.2.2
    have tail : ∀ (B : Nat) (body : (Nat → Nat) → Nat) (ts : List (Addr × List (Nat × Nat))) (G2 : GH), Grow G G2 → B ≤ mW w + 1 → (∀ t ∈ ts, TbAt G2 (b.toNat * B) t) → (∀ f, (sm ts fun t => tot t.2 f) = sm (rgN a b) fun k => evP body k f) → (∀ f, (sm (rgN a b) fun k => evP body k fun i => f (i + 1)) = ev (.lop a b t w) f) →
        spAd [.lst (rfs ts)] G2 (fun d G3 => spLo [d, .int 1] G3 Q noX) noX := by
      intro B body ts G2 g2 hBm ht hs hev
      have hb1 : b.toNat * B ≤ b.toNat * (mW w + 1) := Nat.mul_le_mul_left _ hBm
      refine ⟨ts, b.toNat * B, rfl, ht, by omega, fun p3 l3 G3 g3 n3 d3 k1 k2 k3 k4 => ?_⟩
      refine ⟨p3, 1, l3, b.toNat * B, rfl, d3, k1, k2, k3, by omega, fun p4 l4 G4 g4 n4 d4 j1 j2 j3 j4 => ?_⟩
      refine hq p4 l4 G4 ((g2.trans g3).trans g4) (grow_none (g2.trans g3) n4) ⟨d4, j1, j2, fun x hx => ?_⟩ fun f => ?_
      · have := j3 x hx
        rw [mW]; omega
      · rw [j4, k4, hs, hev]
    cases t with
    | true =>
      walk_at "ds"
      refine ⟨a, b, p1, l1, ⟨mW w, xW w⟩, rfl, ho.1, ho.2.1, ho.2.2.1, t1, (by show (b.toNat + 1) * mW w ≤ 1900; omega), hV1, (by show (b.toNat + 1) * xW w ≤ 900; omega), fun ts G2 g2 ht hs => ?_⟩
      walk_at "ds"
      refine tail (mW w) (tot l1) ts G2 (g1.trans g2) (by omega) ht hs fun f => ?_
      rw [ev]
      refine sm_congr fun k _ => evP_congr (fun g => ?_) k _
      rw [f1, if_pos rfl]
    | false =>
      walk_at "ds"
      refine ⟨p1, 1, l1, mW w, rfl, t1.1, t1.2.1, t1.2.2.1, t1.2.2.2, by omega, fun p2 l2 G2 g2 n2 d2 k1 k2 k3 k4 => ?_⟩
      walk_at "ds"
      refine ⟨a, b, p2, l2, ⟨mW w + 1, xW w⟩, rfl, ho.1, ho.2.1, ho.2.2.1, ⟨d2, k1, k2, k3⟩, (by show (b.toNat + 1) * (mW w + 1) ≤ 1900; omega), (by rw [k4]; exact hV1), (by show (b.toNat + 1) * xW w ≤ 900; omega), fun ts G3 g3 ht hs => ?_⟩
      walk_at "ds"
      refine tail (mW w + 1) (tot l2) ts G3 ((g1.trans g2).trans g3) (Nat.le_refl _) ht hs fun f => ?_
      rw [ev]
      refine sm_congr fun k _ => evP_congr (fun g => ?_) k _
      rw [k4, f1, if_neg (by decide)]
  | eit ws =>
    have hm := mW_le ho hz
    rw [okW] at ho
    rw [zW] at hz
    rw [dpW] at hd
    rw [xW] at hx
    rw [mW] at hm
    have hl := len_zWs ws
    rw [toD]; walk_at "ds"
    refine iLc ?_
    walk_at "ds"
    intro pl hpl
    refine dLcGo_of (I := fun rest acc G1 => ∃ rs ts, rest = toDs rs ∧ (∀ w ∈ rs, w ∈ ws) ∧ acc = rfs ts ∧ ts.length + rs.length = ws.length ∧ Grow G G1 ∧ G1 pl = some (.lst acc) ∧ (∀ t ∈ ts, TbAt G1 (mWs ws) t) ∧ ∀ f, (sm ts fun t => tot t.2 f) + evE rs f = evE ws f) ?_ ?_ _ [] _ ⟨ws, [], rfl, fun _ h => h, rfl, by simp, Grow.upd hpl, updG_same, fun t ht => (by cases ht), fun f => by rw [sm_nil]; omega⟩
    · rintro acc G1 ⟨rs, ts, e, _, rfl, _, g1, e1, e2, e3⟩
      have : rs = [] := by cases rs with
        | nil => rfl
        | cons w rs => rw [toDs] at e; cases e
      subst this
      refine ⟨trivial, frzR e1 ?_⟩
      walk_at "ds"
      have gd : Grow G (dropG G1 pl) := Grow.drop hpl g1
      refine ⟨ts, mWs ws, rfl, fun t ht => ?_, by omega, fun p3 l3 G3 g3 n3 d3 k1 k2 k3 k4 => ?_⟩
      · obtain ⟨z1, z2⟩ := e2 t ht
        exact ⟨by rw [dropG_ne (fun z => by rw [z, e1] at z1; cases z1)]; exact z1, z2⟩
      walk_at "ds"
      refine ⟨p3, 1, l3, mWs ws, rfl, d3, k1, k2, k3, by omega, fun p4 l4 G4 g4 n4 d4 j1 j2 j3 j4 => ?_⟩
      refine hq p4 l4 G4 ((gd.trans g3).trans g4) (grow_none (gd.trans g3) n4) ⟨d4, j1, j2, fun x hx => ?_⟩ fun f => ?_
      · have := j3 x hx; rw [mW]; omega
      · have := e3 fun i => f (i + 1)
        rw [evE] at this
        rw [j4, k4, ev, ← this]; omega
    · rintro x xs acc G1 ⟨rs, ts, e, hmem, rfl, hlen, g1, e1, e2, e3⟩
      cases rs with
      | nil => rw [toDs] at e; cases e
      | cons w rs =>
        rw [toDs] at e
        injection e with e5 e6
        subst e5
        refine ⟨trivial, _, rfl, fun K hK => ?_⟩
        have hw := hmem w (List.mem_cons_self ..)
        have hzw := zWs_mem hw
        have hdw := dpWs_mem hw
        have hmw := mWs_mem hw
        have hxw := xE_mem hw
        rw [List.length_cons] at hlen
        walk_at "ds"
        refine ⟨w, rfl, okWs_iff.mp ho.2 _ hw, by omega, by omega, by omega, fun p2 l2 G2 g2 n2 t2 f2 => ?_⟩
        have hpl2 : p2 ≠ pl := fun z => by rw [z, e1] at n2; cases n2
        have up : ∀ (B : Nat) (t : Addr × List (Nat × Nat)) (o : DO), TbAt G2 B t → TbAt (updG G2 pl o) B t := fun B t o ⟨z1, z2⟩ => ⟨by rw [updG_ne (fun z => by rw [z, g2 _ _ e1] at z1; cases z1)]; exact z1, z2⟩
        refine hK (.ref p2) G2 (g2 _ _ e1) (by unfold rfs; rw [List.length_map]; exact Nat.lt_of_le_of_lt (m := 270) (by omega) (by decide)) ⟨rs, ts ++ [(p2, l2)], e6, fun v hv => hmem v (List.mem_cons_of_mem _ hv), ?_, ?_, ?_, updG_same, fun t ht => ?_, fun f => ?_⟩
        · unfold rfs; rw [List.map_append]; rfl
        · rw [List.length_append, List.length_singleton]; omega
        · exact fun c o hc => by rw [updG_ne (fun z => by rw [z, hpl] at hc; cases hc)]; exact g2 _ _ (g1 _ _ hc)
        · rcases List.mem_append.mp ht with z | z
          · exact up _ _ _ ((e2 t z).grow g2)
          · rw [List.mem_singleton] at z; subst z
            exact up _ _ _ (t2.mono hmw)
        · have := e3 f
          rw [evE] at this
          rw [sm_app, sm_cons, sm_nil, ← this]
          dsimp only
          rw [f2]
          omega
  | row ws =>
    have hm := mW_le ho hz
    rw [okW] at ho
    rw [zW] at hz
    rw [dpW] at hd
    rw [xW] at hx
    rw [mW] at hm
    have hl := len_zWs ws
    rw [toD]; walk_at "ds"
    refine iDisp fun p0 hp0 => ?_
    walk_at "ds"
    refine dispEnd updG_same rfl (by decide) ?_
    walk_at "ds"
    rw [updG_updG]
    refine dForGo_of (I := fun rest ρ G1 => ∃ done rs h hl x0 x1 x2 x3, rest = toDs rs ∧ ws = done ++ rs ∧ ρ = [x0, x1, x2, x3, some (.ref h)] ∧ Grow G G1 ∧ G h = none ∧ TbAt G1 (mWs done) (h, hl) ∧ ∀ f, tot hl f = evR done f) ?_ ?_ _ _ _ ⟨[], ws, p0, [(0, 1)], _, _, _, _, rfl, rfl, rfl, Grow.upd hp0, hp0, ⟨updG_same, by simp, ?_, ?_⟩, fun f => by rw [tb1, evR]⟩
    · rintro ρ G1 ⟨done, rs, h, hl, x0, x1, x2, x3, e, ew, rfl, g1, hn, hh, hf⟩
      have : rs = [] := by cases rs with
        | nil => rfl
        | cons w rs => rw [toDs] at e; cases e
      subst this
      rw [List.append_nil] at ew
      subst ew
      refine ⟨trivial, ?_⟩
      walk_at "ds"
      exact hq h hl G1 g1 hn (by rw [mW]; exact hh) fun f => by rw [ev]; exact hf f
    · rintro y rest ρ G1 ⟨done, rs, h, hl, x0, x1, x2, x3, e, ew, rfl, g1, hn, hh, hf⟩ K hK
      cases rs with
      | nil => rw [toDs] at e; cases e
      | cons w rs =>
        rw [toDs] at e
        injection e with e5 e6
        subst e5
        have hw : w ∈ ws := by rw [ew]; simp
        have hzw := zWs_mem hw
        have hdw := dpWs_mem hw
        have hmw := mWs_mem hw
        have hxw := xR_mem hw
        have hsum : mWs ws = mWs done + (mW w + mWs rs) := by rw [ew, mWs_app, mWs]
        have hod : okWs 12 done := okWs_iff.mpr fun v hv => okWs_iff.mp ho v (by rw [ew]; exact List.mem_append_left _ hv)
        have hxd : xR done ≤ xR ws := by
          rw [ew]
          have : ∀ l m : List Wk, xR l ≤ xR (l ++ m) := by
            intro l m
            induction l with
            | nil => rw [xR]; exact Nat.zero_le _
            | cons v l ih => rw [List.cons_append, xR, xR]; omega
          exact this _ _
        refine ⟨trivial, ?_⟩
        walk_at "ds"
        refine ⟨w, rfl, okWs_iff.mp ho _ hw, by omega, by omega, by omega, fun p2 l2 G2 g2 n2 t2 f2 => ?_⟩
        have hne : h ≠ p2 := fun z => by rw [← z, hh.1] at n2; cases n2
        walk_at "ds"
        refine ⟨rfl, rfl, ?_⟩
        refine ⟨h, p2, false, hl, l2, ⟨mWs done, tot hl fun _ => 1, mW w, tot l2 fun _ => 1⟩, rfl, hne, (hh.grow g2).1, t2.1, ⟨hh.2.1, hh.2.2.1, hh.2.2.2, Nat.le_refl _⟩, ⟨t2.2.1, t2.2.2.1, t2.2.2.2, Nat.le_refl _⟩, (by show mWs done ≤ 1900; omega), (by show mW w ≤ 1900; omega), ?_, ?_, ?_⟩
        · show Lg 1000 (tot hl fun _ => 1)
          rw [hf]
          exact Lg.two (ev_nums done hod).2 (by omega)
        · show Lg 1000 (tot l2 fun _ => 1)
          rw [f2]; exact lg_ev (okWs_iff.mp ho _ hw) (by omega)
        · intro p l G3 g3 n3 d3 k1 k2 k3 k4
          refine hK _ _ ⟨done ++ [w], rs, p, l, _, _, _, _, e6, by rw [ew, List.append_assoc]; rfl, rfl, (g1.trans g2).trans g3, grow_none (g1.trans g2) n3, ⟨d3, k1, k2, fun x hx => ?_⟩, fun f => ?_⟩
          · have := k3 x hx
            rw [mWs_app, mWs, mWs]
            exact this
          · rw [k4, hf, evR_app]
            congr 1; funext i
            rw [f2, evR_one]
            congr 1; funext j
            show (if false = true then ch (i + j) i else 1) * f (i + j) = _
            rw [if_neg (by decide), Nat.one_mul]
    · intro x hx; rw [List.mem_singleton] at hx; subst hx; exact Nat.le_refl _
    · intro x hx; rw [List.mem_singleton] at hx; subst hx; exact Nat.zero_le _
  | bes a b =>
    have hm := mW_le ho hz
    have ho' := ho
    rw [okW] at ho
    rw [zW] at hz
    rw [dpW] at hd
    rw [mW] at hm
    have hx' := hx
    rw [xW] at hx
    rw [toD]; walk_at "ds"
    refine ⟨a, rfl, ho.1, by omega, by omega, by omega, fun p1 l1 G1 g1 n1 t1 f1 => ?_⟩
    walk_at "ds"
    refine ⟨b, rfl, ho.2, by omega, by omega, by omega, fun p2 l2 G2 g2 n2 t2 f2 => ?_⟩
    walk_at "ds"
    have t1' := t1.grow g2
    have hne : p1 ≠ p2 := fun z => by rw [← z, t1.1] at n2; cases n2
    have e1 : tot l1 (fun _ => 1) = ev a fun _ => 1 := f1 _
    have e2 : tot l2 (fun _ => 1) = ev b fun _ => 1 := f2 _
    refine ⟨rfl, rfl, ?_⟩
    refine ⟨p1, p2, true, l1, l2, ⟨mW a, tot l1 fun _ => 1, mW b, tot l2 fun _ => 1⟩, rfl, hne, t1'.1, t2.1, ⟨t1.2.1, t1.2.2.1, t1.2.2.2, Nat.le_refl _⟩, ⟨t2.2.1, t2.2.2.1, t2.2.2.2, Nat.le_refl _⟩, (by show mW a ≤ 1900; omega), (by show mW b ≤ 1900; omega), by rw [e1]; exact lg_ev ho.1 (by omega), by rw [e2]; exact lg_ev ho.2 (by omega), ?_⟩
    intro p l G3 g3 n3 d3 k1 k2 k3 k4
    refine hq p l G3 ((g1.trans g2).trans g3) (grow_none (g1.trans g2) n3) ⟨d3, k1, k2, by rw [mW]; exact k3⟩ fun f => ?_
    rw [k4, f1, ev]
    congr 1; funext i
    rw [f2]
    congr 1
end K22
namespace K22
open PySem L2 Dl K17 K18 K24 K20 K28 K27 K23
local macro_rules | `(tactic| walk_at "ds") => `(tactic| repeat' with_reducible first
  | refine iVar (by with_unfolding_all rfl) ?_
  | refine iCons ?_
  | refine iNil ?_
  | refine iSeq ?_
  | refine iAsg ?_
  | refine iGNm ?_
  | refine iTup ?_
  | refine iFrz ?_
  | refine iRet ?_
  | refine iCall ?_
  | refine iDGet ?_
  | refine dctP_i (by assumption) ?_
  | refine dctP_i updG_same ?_
  | refine lenOk (by with_unfolding_all rfl) ?_
  | refine iCB ?_
  | refine iISq ?_
  | refine tupC_l ?_
  | refine keyP_i ?_
  | fail "stuck")
def rowsW (w : Wk) : List (Nat × Nat) := ((List.range 2000).map fun n => (n, ev w (dl n))).filter fun p => decide (0 < p.2)
def rowD (p : Nat × Nat) : D := .tup [.int (p.1 : Nat), .int (p.2 : Nat)]
theorem lk_mem {l : List (Nat × Nat)} (hn : (l.map (·.1)).Nodup) : ∀ {p : Nat × Nat}, p ∈ l → lkT l p.1 = p.2 := by
  induction l with
  | nil => intro p h; cases h
  | cons q l ih =>
    intro p h
    rw [List.map_cons, List.nodup_cons] at hn
    rw [lkT]
    rcases List.mem_cons.mp h with e | e
    · rw [e, if_pos rfl]
    · rw [if_neg fun z => hn.1 (List.mem_map.mpr ⟨p, e, z.symm⟩)]
      exact ih hn.2 e
theorem lk_pos {k : Nat} : ∀ {l : List (Nat × Nat)}, 0 < lkT l k → (k, lkT l k) ∈ l
  | [], h => by rw [lkT] at h; omega
  | p :: l, h => by
    rw [lkT] at h ⊢
    by_cases e : p.1 = k
    · rw [if_pos e, ← e]; exact List.mem_cons_self ..
    · rw [if_neg e] at h ⊢; exact List.mem_cons_of_mem _ (lk_pos h)
theorem tot_dl {k : Nat} : ∀ {l : List (Nat × Nat)}, (l.map (·.1)).Nodup → tot l (dl k) = lkT l k
  | [], _ => rfl
  | p :: l, h => by
    rw [List.map_cons, List.nodup_cons] at h
    rw [tot_cons, tot_dl h.2, lkT]
    unfold dl
    by_cases e : p.1 = k
    · rw [if_pos e, if_pos e, lk_no fun x hx z => h.1 (List.mem_map.mpr ⟨x, hx, by rw [z, e]⟩)]; omega
    · rw [if_neg e, if_neg e]; omega
theorem asc_uni : ∀ {A B : List (Nat × Nat)}, A.Pairwise (fun p q => p.1 < q.1) → B.Pairwise (fun p q => p.1 < q.1) → (∀ p, p ∈ A ↔ p ∈ B) → A = B
  | [], [], _, _, _ => rfl
  | [], q :: B, _, _, h => by have := (h q).mpr (List.mem_cons_self ..); cases this
  | p :: A, [], _, _, h => by have := (h p).mp (List.mem_cons_self ..); cases this
  | p :: A, q :: B, ha, hb, h => by
    rw [List.pairwise_cons] at ha hb
    have e : p = q := by
      rcases List.mem_cons.mp ((h p).mp (List.mem_cons_self ..)) with z | z
      · exact z
      · rcases List.mem_cons.mp ((h q).mpr (List.mem_cons_self ..)) with y | y
        · exact y.symm
        · have := hb.1 p z; have := ha.1 q y; omega
    subst e
    rw [asc_uni ha.2 hb.2 fun x => ?_]
    have hx := h x
    rw [List.mem_cons, List.mem_cons] at hx
    constructor
    · intro z
      rcases hx.mp (.inr z) with y | y
      · have := ha.1 x z; rw [y] at this; omega
      · exact y
    · intro z
      rcases hx.mpr (.inr z) with y | y
      · have := hb.1 x z; rw [y] at this; omega
      · exact y
theorem rows_asc (w : Wk) : (rowsW w).Pairwise fun p q => p.1 < q.1 := by
  unfold rowsW
  refine List.Pairwise.filter _ ?_
  rw [List.pairwise_map]
  exact List.pairwise_lt_range
theorem rows_mem {w : Wk} {p : Nat × Nat} : p ∈ rowsW w ↔ p.1 < 2000 ∧ p.2 = ev w (dl p.1) ∧ 0 < p.2 := by
  unfold rowsW
  rw [List.mem_filter, decide_eq_true_eq]
  constructor
  · rintro ⟨h, h2⟩
    obtain ⟨n, hn, rfl⟩ := List.mem_map.mp h
    exact ⟨List.mem_range.mp hn, rfl, h2⟩
  · rintro ⟨h1, h2, h3⟩
    refine ⟨List.mem_map.mpr ⟨p.1, List.mem_range.mpr h1, ?_⟩, h3⟩
    rw [← h2]
theorem rows_uni {w : Wk} {l A : List (Nat × Nat)} {B : Nat} (hn : (l.map (·.1)).Nodup) (hp : ∀ x ∈ l, 1 ≤ x.2) (hb : ∀ x ∈ l, x.1 ≤ B) (hB : B < 2000) (ho : okW 12 w) (hw : mW w < 2000) (he : ∀ f, tot l f = ev w f) (pm : List.Perm A l) (ha : A.Pairwise fun p q => p.1 < q.1) : A = rowsW w := by
  refine asc_uni ha (rows_asc w) fun p => ?_
  rw [pm.mem_iff, rows_mem]
  constructor
  · intro h
    have h1 := lk_mem hn h
    rw [← tot_dl hn, he] at h1
    exact ⟨by have := hb p h; omega, h1.symm, hp p h⟩
  · rintro ⟨h1, h2, h3⟩
    have h4 := lk_pos (k := p.1) (l := l) (by rw [← tot_dl hn, he, ← h2]; exact h3)
    rw [← tot_dl hn, he, ← h2] at h4
    exact h4
theorem rows_tidy (w : Wk) : rowsW (tidyW w) = rowsW w := by
  unfold rowsW
  rw [show (fun n => (n, ev (tidyW w) (dl n))) = fun n => (n, ev w (dl n)) from funext fun n => by rw [ev_tidy]]
theorem rows_len (w : Wk) {m : Nat} (ho : okW 12 w) (hm : mW w ≤ m) : (rowsW w).length ≤ m + 1 := by
  have nd : ((rowsW w).map (·.1)).Nodup := by
    rw [List.Nodup, List.pairwise_map]
    exact (rows_asc w).imp fun h => Nat.ne_of_lt h
  refine bd_len nd (fun x hx => (rows_mem.mp hx).2.2) fun x hx => ?_
  obtain ⟨_, h2, h3⟩ := rows_mem.mp hx
  by_cases c : x.1 ≤ m
  · exact c
  · rw [h2, ev_high ho (by omega)] at h3; omega
theorem rows_bd {w : Wk} (ho : okW 12 w) {p : Nat × Nat} (hp : p ∈ rowsW w) : p.1 ≤ mW w ∧ p.2 ≤ 2 ^ xW w := by
  obtain ⟨_, h2, h3⟩ := rows_mem.mp hp
  refine ⟨?_, ?_⟩
  · by_cases c : p.1 ≤ mW w
    · exact c
    · rw [h2, ev_high ho (by omega)] at h3; omega
  · rw [h2]
    exact Nat.le_trans (ev_mono ho fun k => by unfold dl; split <;> omega) (ev_num w ho)
theorem rows_first {w : Wk} (ho : okW 12 w) (hm : mW w < 2000) : ∃ v r, rowsW w = ((shW w).length, v) :: r := by
  have hl := sh_len w ho
  have hmem : ((shW w).length, ev w (dl (shW w).length)) ∈ rowsW w := rows_mem.mpr ⟨by dsimp only; omega, rfl, ev_first ho⟩
  have asc := rows_asc w
  cases e : rowsW w with
  | nil => rw [e] at hmem; cases hmem
  | cons p r =>
    rw [e] at hmem asc
    have hp : p ∈ rowsW w := by rw [e]; exact List.mem_cons_self ..
    obtain ⟨_, h2, h3⟩ := rows_mem.mp hp
    have lo : (shW w).length ≤ p.1 := by
      by_cases c : p.1 < (shW w).length
      · rw [h2, ev_low ho c] at h3; omega
      · omega
    rw [List.pairwise_cons] at asc
    rcases List.mem_cons.mp hmem with z | z
    · exact ⟨_, r, by rw [z]⟩
    · have := asc.1 _ z
      dsimp only at this
      omega
theorem sortK_i {a : Addr} {l : List (Nat × Nat)} {G : GH} {Q : DK} (hg : G a = some (.dct (kvT l))) (h : ∀ ks p, List.Perm ks (l.map (·.1)) → ks.Pairwise (· ≤ ·) → G p = none → Q (.ref p) (updG G p (.lst (ks.map fun k : Nat => D.int (k : Int))))) : rSortK [.ref a] G Q := by
  unfold rSortK arg1
  dsimp only
  refine dctP_i hg ⟨l.map fun p => (p.1 : Int), ?_, fun ns' p pm asc hp => ?_⟩
  · unfold kvT; rw [List.map_map, List.map_map]; rfl
  · have e : ns' = (ns'.map Int.toNat).map fun k : Nat => (k : Int) := by
      rw [List.map_map]
      conv => lhs; rw [← List.map_id ns']
      refine List.map_congr_left fun n hn => ?_
      obtain ⟨q, _, rfl⟩ := List.mem_map.mp (pm.mem_iff.mp hn)
      rfl
    have h1 := h (ns'.map Int.toNat) p (by
      have := pm.map Int.toNat
      rw [List.map_map] at this
      exact this) (List.pairwise_map.mpr (asc.imp fun {x y} z => Int.toNat_le_toNat z)) hp
    rw [List.map_map] at h1
    rw [show ns'.map D.int = ns'.map ((fun k : Nat => D.int (k : Int)) ∘ Int.toNat) from List.map_congr_left fun n hn => by
      obtain ⟨q, _, rfl⟩ := List.mem_map.mp (pm.mem_iff.mp hn)
      rfl]
    exact h1
structure Ok22 (w : Wk) : Prop where
  ok : okW 12 w
  z : zW w ≤ 270
  x : xW w ≤ 900
  d : dpW w ≤ 30
theorem Ok22.m {w : Wk} (h : Ok22 w) : mW w ≤ 1890 := mW_le h.ok h.z
def spLn : DSp := fun ds G Q _ => ∃ w, ds = [toD w] ∧ Ok22 w ∧ ∀ G', Grow G G' → Q (.tup ((rowsW w).map rowD)) G'
theorem get_kv {l : List (Nat × Nat)} {k : Nat} (h : k ∈ l.map (·.1)) : getK (kvT l) (.inl (k : Int)) = some (.int (lkT l k : Nat)) := by
  have := get_kvT k l
  cases e : getK (kvT l) (.inl (k : Int)) with
  | some d => rw [e] at this; exact congrArg some this
  | none =>
    exfalso
    have key : ∀ {l : List (Nat × Nat)}, k ∈ l.map (·.1) → getK (kvT l) (.inl (k : Int)) ≠ none := by
      intro l
      induction l with
      | nil => intro h; cases h
      | cons p l ih =>
        intro h
        show (if (Sum.inl (p.1 : Int) : Key) = Sum.inl (k : Int) then some (D.int (p.2 : Int)) else getK (kvT l) (.inl (k : Int))) ≠ none
        by_cases e : p.1 = k
        · rw [if_pos (by rw [e])]; exact Option.some_ne_none _
        · rw [if_neg (by intro z; exact e (by have := Sum.inl.inj z; omega))]
          refine ih ?_
          rw [List.map_cons] at h
          rcases List.mem_cons.mp h with z | z
          · exact absurd z.symm e
          · exact z
    exact key h e
theorem lengths_of_rd : ∀ ds G Q E, spLn ds G Q E → r_lengths_of (spLT 30) { nx := fun _ G' => Q .non G', rt := Q } (startD 3 ds) G := by
  rintro ds G Q E ⟨w, rfl, hw, hq⟩
  unfold r_lengths_of
  have hm := hw.m
  walk_at "ds"
  refine ⟨w, rfl, hw.ok, hw.z, hw.x, hw.d, fun p l G1 g1 n1 t1 f1 => ?_⟩
  walk_at "ds"
  have len : l.length ≤ mW w + 1 := bd_len t1.2.1 t1.2.2.1 t1.2.2.2
  refine iLc ?_
  walk_at "ds"
  refine sortK_i t1.1 fun ks p2 pm asc hp2 => ?_
  have hpp : p ≠ p2 := fun z => by rw [← z, t1.1] at hp2; cases hp2
  refine frzR updG_same ?_
  walk_at "ds"
  have nd : ks.Nodup := pm.nodup_iff.mpr t1.2.1
  have e : ks.map (fun k => (k, lkT l k)) = rowsW w := by
    have pa : List.Perm (ks.map fun k => (k, lkT l k)) l := by
      have h1 := pm.map fun k => (k, lkT l k)
      rw [List.map_map] at h1
      have h2 : l.map ((fun k => (k, lkT l k)) ∘ fun x : Nat × Nat => x.1) = l := by
        conv => rhs; rw [← List.map_id l]
        exact List.map_congr_left fun x hx => by simp only [Function.comp, lk_mem t1.2.1 hx]; rfl
      rwa [h2] at h1
    have as : (ks.map fun k => (k, lkT l k)).Pairwise fun p q => p.1 < q.1 := by
      rw [List.pairwise_map]
      exact (asc.and nd).imp fun {x y} h => by dsimp only; omega
    exact rows_uni t1.2.1 t1.2.2.1 t1.2.2.2 (by omega) hw.ok (by omega) f1 pa as
  have lk : ks.length = l.length := by have := pm.length_eq; rwa [List.length_map] at this
  have gd : Grow G (dropG (updG G1 p2 (.lst (ks.map fun k : Nat => D.int (k : Int)))) p2) := g1.trans (Grow.drop hp2 (Grow.upd hp2))
  intro pl hpl
  have hppl : p ≠ pl := fun z => by
    rw [← z, dropG_ne hpp, updG_ne hpp, t1.1] at hpl; cases hpl
  refine dLcGo_of (I := fun rest acc G2 => ∃ done rs, ks = done ++ rs ∧ rest = rs.map (fun k : Nat => D.int (k : Int)) ∧ acc = (done.map fun k => (k, lkT l k)).map rowD ∧ Grow G G2 ∧ G2 p = some (.dct (kvT l)) ∧ G2 pl = some (.lst acc)) ?_ ?_ _ [] _ ⟨[], ks, rfl, rfl, rfl, gd.trans (Grow.upd hpl), ?_, updG_same⟩
  · rintro acc G2 ⟨done, rs, ek, er, rfl, g2, e1, e2⟩
    have : rs = [] := by cases rs with
      | nil => rfl
      | cons k rs => cases er
    subst this
    rw [List.append_nil] at ek
    subst ek
    refine ⟨trivial, frzR e2 ?_⟩
    rw [e]
    walk_at "ds"
    exact hq _ (Grow.drop (grow_none gd hpl) g2)
  · rintro x xs acc G2 ⟨done, rs, ek, er, rfl, g2, e1, e2⟩
    cases rs with
    | nil => cases er
    | cons k rs =>
      injection er with e5 e6
      subst e5
      refine ⟨trivial, _, rfl, fun K hK => ?_⟩
      have hk : k ∈ l.map (·.1) := pm.mem_iff.mp (by rw [ek]; simp)
      have hlen : done.length + (rs.length + 1) = l.length := by
        rw [← lk, ek, List.length_append, List.length_cons]
      walk_at "ds"
      refine getK_i (get_kv hk) ?_
      walk_at "ds"
      refine hK _ G2 e2 (by rw [List.length_map, List.length_map]; exact Nat.lt_of_le_of_lt (m := 1891) (by omega) (by decide)) ⟨done ++ [k], rs, by rw [ek, List.append_assoc]; rfl, e6, by rw [List.map_append, List.map_append]; rfl, ?_, by rw [updG_ne hppl]; exact e1, updG_same⟩
      exact fun c o hc => by rw [updG_ne (fun z => by rw [z, grow_none gd hpl] at hc; cases hc)]; exact g2 _ _ hc
  · rw [updG_ne hppl, dropG_ne hpp, updG_ne hpp]; exact t1.1
def numW (w : Wk) : Int := ((rowsW w).map fun p => (p.2 : Int)).sum
def spHm : DSp := fun ds G Q _ => ∃ w, ds = [toD w] ∧ Ok22 w ∧ ∀ G', Grow G G' → Q (.int (numW w)) G'
theorem how_many_runs_rd : ∀ ds G Q E, spHm ds G Q E → r_how_many_runs spLn { nx := fun _ G' => Q .non G', rt := Q } (startD 3 ds) G := by
  rintro ds G Q E ⟨w, rfl, hw, hq⟩
  unfold r_how_many_runs
  walk_at "ds"
  refine lcF (rowsW w) rowD (fun p => D.int (p.2 : Nat)) ?_ (Nat.le_trans (rows_len w hw.ok hw.m) (by decide)) ?_ ?_
  · intro P hP
    walk_at "ds"
    refine ⟨w, rfl, hw, fun G1 g1 => ?_⟩
    walk_at "ds"
    exact hP _ _ (fun _ => trivial) g1
  · intro p hp
    refine ⟨_, rfl, fun G2 K hK => ?_⟩
    walk_at "ds"
    exact hK _ (Grow.refl _)
  · intro G2 g2
    rw [show (rowsW w).map (fun p => D.int (p.2 : Nat)) = ((rowsW w).map fun p => (p.2 : Int)).map D.int from by rw [List.map_map]; rfl]
    walk_at "ds"
    exact K24.sum_i (hq _ g2)
end K22
namespace K23
open PySem L2 Dl K17 K18 K24
local macro_rules | `(tactic| walk_at "ds") => `(tactic| repeat' with_reducible first
  | fail "stuck")
theorem ws_ne {a b : Str} (h : a ≠ b) (x y : List PyData) : cmpbs (.str a :: x) (.str b :: y) = true := by
  rw [cmpbs, show cmpb (.str a) (.str b) = true from rfl, show PyData.eqv (.str a) (.str b) = false from by simp [PyData.eqv, h]]
  rfl
theorem ws_eq (a : Str) (x y : List PyData) (h : cmpbs x y = true) : cmpbs (.str a :: x) (.str a :: y) = true := by
  rw [cmpbs, show cmpb (.str a) (.str a) = true from rfl, h]; simp
theorem ci {i j : Int} {x y : List PyData} (h : cmpbs x y = true) : cmpbs (.int i :: x) (.int j :: y) = true := by
  rw [cmpbs, show cmpb (.int i) (.int j) = true from rfl, h]; simp
theorem cbb {i j : Bool} {x y : List PyData} (h : cmpbs x y = true) : cmpbs (.bool i :: x) (.bool j :: y) = true := by
  rw [cmpbs, show cmpb (.bool i) (.bool j) = true from rfl, h]; simp
theorem ccc {a b : PyData} {x y : List PyData} (h0 : cmpb a b = true) (h : cmpbs x y = true) : cmpbs (a :: x) (b :: y) = true := by
  rw [cmpbs, h0, h]; simp
theorem cnil : cmpbs [] [] = true := by rw [cmpbs] <;> simp
mutual
theorem cmp_w : ∀ a b : Wk, cmpb (pyD (toD a)) (pyD (toD b)) = true
  | .tick n, b => by
    cases b <;> simp only [toD, pyD, pyDs, cmpb]
    · exact ws_eq _ _ _ (ci cnil)
    all_goals exact ws_ne (by decide +kernel) _ _
  | .sme a c t, b => by
    cases b <;> simp only [toD, pyD, pyDs, cmpb]
    · exact ws_ne (by decide +kernel) _ _
    · exact ws_eq _ _ _ (ci (ci (cbb cnil)))
    all_goals exact ws_ne (by decide +kernel) _ _
  | .lop a c t w, b => by
    cases b with
    | lop a' c' t' w' =>
      have := cmp_w w w'
      simp only [toD, pyD, pyDs, cmpb]
      exact ws_eq _ _ _ (ci (ci (cbb (ccc this cnil))))
    | _ => simp only [toD, pyD, pyDs, cmpb]; exact ws_ne (by decide +kernel) _ _
  | .eit ws, b => by
    cases b with
    | eit vs =>
      have := cmp_ws ws vs
      simp only [toD, pyD, pyDs, cmpb]
      exact ws_eq _ _ _ (ccc (by rw [cmpb]; exact this) cnil)
    | _ => simp only [toD, pyD, pyDs, cmpb]; exact ws_ne (by decide +kernel) _ _
  | .row ws, b => by
    cases b with
    | row vs =>
      have := cmp_ws ws vs
      simp only [toD, pyD, pyDs, cmpb]
      exact ws_eq _ _ _ (ccc (by rw [cmpb]; exact this) cnil)
    | _ => simp only [toD, pyD, pyDs, cmpb]; exact ws_ne (by decide +kernel) _ _
  | .bes a c, b => by
    cases b with
    | bes a' c' =>
      have h1 := cmp_w a a'
      have h2 := cmp_w c c'
      simp only [toD, pyD, pyDs, cmpb]
      exact ws_eq _ _ _ (ccc h1 (ccc h2 cnil))
    | _ => simp only [toD, pyD, pyDs, cmpb]; exact ws_ne (by decide +kernel) _ _
theorem cmp_ws : ∀ a b : List Wk, cmpbs (pyDs (toDs a)) (pyDs (toDs b)) = true
  | [], b => by cases b <;> simp [toDs, pyDs, cmpbs]
  | w :: ws, [] => by simp [toDs, pyDs, cmpbs]
  | w :: ws, v :: vs => by
    have h1 := cmp_w w v
    have h2 := cmp_ws ws vs
    simp only [toDs, pyDs]
    exact ccc h1 h2
end
theorem cmp_st (q r : Sta) : cmpb (pyD (itD q)) (pyD (itD r)) = true := by
  simp only [itD, pyD, pyDs, cmpb]
  exact ci (ccc (cmp_w q.2 r.2) cnil)
mutual
theorem cmpb_comm : ∀ x y : PyData, cmpb x y = true → cmpb y x = true
  | .bool _, y, h => by cases y <;> simp [cmpb] at h ⊢
  | .int _, y, h => by cases y <;> simp [cmpb] at h ⊢
  | .str _, y, h => by cases y <;> simp [cmpb] at h ⊢
  | .tuple xs, y, h => by
    cases y with
    | tuple ys => rw [cmpb] at h ⊢; exact cmpbs_comm xs ys h
    | _ => simp [cmpb] at h
  | .none, y, h => by cases y <;> simp [cmpb] at h
  | .list _, y, h => by cases y <;> simp [cmpb] at h
  | .dict _, y, h => by cases y <;> simp [cmpb] at h
theorem cmpbs_comm : ∀ xs ys : List PyData, cmpbs xs ys = true → cmpbs ys xs = true
  | [], [], _ => by simp [cmpbs]
  | [], _ :: _, _ => by simp [cmpbs]
  | _ :: _, [], _ => by simp [cmpbs]
  | x :: xs, y :: ys, h => by
    obtain ⟨h1, h2⟩ := cmpbs_cons h
    have k1 := cmpb_comm x y h1
    rw [cmpbs, k1, PySem.W.eqv_comm y x]
    cases e : PyData.eqv x y with
    | false => rfl
    | true => rw [cmpbs_comm xs ys (h2 e)]; rfl
end
theorem tot {a b : List (Int ⊕ List Nat)} (h1 : tlt a b = false) (h2 : tlt b a = false) : a = b := PyProof.Rows.lex_total (O := PyProof.Rows.itemOrd) a b h1 h2
theorem irr (a : List (Int ⊕ List Nat)) : tlt a a = false := PyProof.Rows.lex_irrefl (O := PyProof.Rows.itemOrd) a
mutual
theorem toks_ne : ∀ x y : PyData, cmpb x y = true → PyData.eqv x y = false → PySem.W.keyToks x ≠ PySem.W.keyToks y
  | .bool a, y, h, e => by
    cases y with
    | bool b => cases a <;> cases b <;> simp [PyData.eqv, PySem.W.keyToks] at e ⊢
    | _ => simp [cmpb] at h
  | .int a, y, h, e => by
    cases y with
    | int b => simpa [PyData.eqv, PySem.W.keyToks] using e
    | _ => simp [cmpb] at h
  | .str a, y, h, e => by
    cases y with
    | str b =>
      have : a ≠ b := by simpa [PyData.eqv] using e
      intro z
      simp only [PySem.W.keyToks] at z
      exact this (PySem.W.str_of_cps (by simpa using z))
    | _ => simp [cmpb] at h
  | .tuple xs, y, h, e => by
    cases y with
    | tuple ys => rw [cmpb] at h; rw [PyData.eqv] at e; simp only [PySem.W.keyToks]; exact tokss_ne xs ys h e
    | _ => simp [cmpb] at h
  | .none, y, h, _ => by cases y <;> simp [cmpb] at h
  | .list _, y, h, _ => by cases y <;> simp [cmpb] at h
  | .dict _, y, h, _ => by cases y <;> simp [cmpb] at h
theorem tokss_ne : ∀ xs ys : List PyData, cmpbs xs ys = true → PyData.eqvAll xs ys = false → PySem.W.keyToksAll xs ≠ PySem.W.keyToksAll ys
  | [], [], _, e => by simp [PyData.eqvAll] at e
  | [], y :: ys, _, _ => by rw [PySem.W.toks_all_cons]; simp [PySem.W.keyToksAll]
  | x :: xs, [], _, _ => by rw [PySem.W.toks_all_cons]; simp [PySem.W.keyToksAll]
  | x :: xs, y :: ys, h, e => by
    obtain ⟨h1, h2⟩ := cmpbs_cons h
    rw [PySem.W.eqv_all_cons] at e
    rw [PySem.W.toks_all_cons, PySem.W.toks_all_cons]
    intro z
    injection z with _ z
    cases ex : PyData.eqv x y with
    | true =>
      rw [ex, Bool.true_and] at e
      rw [(toks_c x y h1).1 ex] at z
      exact tokss_ne xs ys (h2 ex) e (List.append_cancel_left z)
    | false =>
      have k1 := (toks_c x y h1).2 ex (PySem.W.keyToksAll xs) (PySem.W.keyToksAll ys)
      have ey : PyData.eqv y x = false := by rw [PySem.W.eqv_comm]; exact ex
      have k2 := (toks_c y x (cmpb_comm x y h1)).2 ey (PySem.W.keyToksAll ys) (PySem.W.keyToksAll xs)
      rw [z, irr] at k1
      rw [z, irr] at k2
      exact toks_ne x y h1 ex (tot k1.symm k2.symm)
end
theorem eq_word {a b : Str} {x y : List PyData} (h : PyData.eqv (.tuple (.str a :: x)) (.tuple (.str b :: y)) = true) : a = b ∧ PyData.eqvAll x y = true := by
  rw [PyData.eqv, PySem.W.eqv_all_cons, Bool.and_eq_true] at h
  exact ⟨by simpa [PyData.eqv] using h.1, h.2⟩
theorem eq_int {a b : Int} {x y : List PyData} (h : PyData.eqvAll (.int a :: x) (.int b :: y) = true) : a = b ∧ PyData.eqvAll x y = true := by
  rw [PySem.W.eqv_all_cons, Bool.and_eq_true] at h
  exact ⟨by simpa [PyData.eqv] using h.1, h.2⟩
theorem eq_bool {a b : Bool} {x y : List PyData} (h : PyData.eqvAll (.bool a :: x) (.bool b :: y) = true) : a = b ∧ PyData.eqvAll x y = true := by
  rw [PySem.W.eqv_all_cons, Bool.and_eq_true] at h
  exact ⟨by simpa [PyData.eqv] using h.1, h.2⟩
theorem eq_one {a b : PyData} {x y : List PyData} (h : PyData.eqvAll (a :: x) (b :: y) = true) : PyData.eqv a b = true ∧ PyData.eqvAll x y = true := by
  rw [PySem.W.eqv_all_cons, Bool.and_eq_true] at h
  exact h
theorem eq_tup {x y : List PyData} (h : PyData.eqv (.tuple x) (.tuple y) = true) : PyData.eqvAll x y = true := by rw [PyData.eqv] at h; exact h
mutual
theorem eqw_inj : ∀ a b : Wk, PyData.eqv (pyD (toD a)) (pyD (toD b)) = true → a = b
  | .tick n, b, h => by
    cases b <;> simp only [toD, pyD, pyDs] at h <;> obtain ⟨e, h⟩ := eq_word h <;> first | exact absurd e (by decide +kernel) | skip
    rw [(eq_int h).1]
  | .sme a c t, b, h => by
    cases b <;> simp only [toD, pyD, pyDs] at h <;> obtain ⟨e, h⟩ := eq_word h <;> first | exact absurd e (by decide +kernel) | skip
    obtain ⟨e1, h⟩ := eq_int h
    obtain ⟨e2, h⟩ := eq_int h
    rw [e1, e2, (eq_bool h).1]
  | .lop a c t w, b, h => by
    cases b <;> simp only [toD, pyD, pyDs] at h <;> obtain ⟨e, h⟩ := eq_word h <;> first | exact absurd e (by decide +kernel) | skip
    obtain ⟨e1, h⟩ := eq_int h
    obtain ⟨e2, h⟩ := eq_int h
    obtain ⟨e3, h⟩ := eq_bool h
    rw [e1, e2, e3, eqw_inj w _ (eq_one h).1]
  | .eit ws, b, h => by
    cases b <;> simp only [toD, pyD, pyDs] at h <;> obtain ⟨e, h⟩ := eq_word h <;> first | exact absurd e (by decide +kernel) | skip
    rw [eqws_inj ws _ (eq_tup (eq_one h).1)]
  | .row ws, b, h => by
    cases b <;> simp only [toD, pyD, pyDs] at h <;> obtain ⟨e, h⟩ := eq_word h <;> first | exact absurd e (by decide +kernel) | skip
    rw [eqws_inj ws _ (eq_tup (eq_one h).1)]
  | .bes a c, b, h => by
    cases b <;> simp only [toD, pyD, pyDs] at h <;> obtain ⟨e, h⟩ := eq_word h <;> first | exact absurd e (by decide +kernel) | skip
    obtain ⟨h1, h⟩ := eq_one h
    rw [eqw_inj a _ h1, eqw_inj c _ (eq_one h).1]
theorem eqws_inj : ∀ a b : List Wk, PyData.eqvAll (pyDs (toDs a)) (pyDs (toDs b)) = true → a = b
  | [], [], h => rfl
  | [], _ :: _, h => by simp [toDs, pyDs, PyData.eqvAll] at h
  | w :: ws, [], h => by simp [toDs, pyDs, PyData.eqvAll] at h
  | w :: ws, v :: vs, h => by
    simp only [toDs, pyDs] at h
    obtain ⟨h1, h⟩ := eq_one h
    rw [eqw_inj w v h1, eqws_inj ws vs h]
end
theorem st_anti {q r : Sta} (h1 : dlt (itD q) (itD r) = false) (h2 : dlt (itD r) (itD q) = false) : q = r := by
  have e := tot h1 h2
  cases ev : PyData.eqv (pyD (itD q)) (pyD (itD r)) with
  | false => exact absurd e (toks_ne _ _ (cmp_st q r) ev)
  | true =>
    simp only [itD, pyD, pyDs] at ev
    rw [PyData.eqv, PySem.W.eqv_all_cons, PySem.W.eqv_all_cons, Bool.and_eq_true, Bool.and_eq_true] at ev
    have h3 := eqw_inj _ _ ev.2.1
    have h4 : q.1 = r.1 := by simpa [PyData.eqv] using ev.1
    exact Prod.ext h4 h3
theorem it_inj {q r : Sta} (h : itD q = itD r) : q = r := by
  refine st_anti ?_ ?_
  · rw [h]; exact irr _
  · rw [h]; exact irr _
end K23
namespace K23
open PySem L2 Dl K17 K18 K24
local macro_rules | `(tactic| walk_at "ds") => `(tactic| repeat' with_reducible first
  | fail "stuck")
def ln (d : D) : Nat := (shL d).length
theorem len_ln (d : D) : (shD d).length = ln d := by
  unfold ln shL
  show (shD d).cps.size = _
  simp
def lns : List D → Nat
  | [] => 0
  | d :: ds => ln d + 2 + lns ds
theorem ln_rT (cl : Nat) : ∀ ds : List D, (rT cl ds).length = 1 + lns ds
  | [] => rfl
  | d :: ds => by
    have := ln_rT cl ds
    simp only [rT, List.length_cons, List.length_append, lns, ln]
    omega
theorem ln_tup (ds : List D) : ln (.tup ds) ≤ 3 + lns ds := by
  unfold ln
  rw [shL_tup]
  match ds with
  | [] => simp [lns]
  | [d] => simp only [List.length_cons, List.length_append, List.length_nil, lns, ln]; omega
  | d :: e :: r =>
    have := ln_rT 41 (e :: r)
    simp only [List.length_cons, List.length_append, this]
    simp only [lns, ln]
    omega
theorem ln_lst (ds : List D) : ln (.lst ds) ≤ 3 + lns ds := by
  unfold ln
  rw [shL_lst]
  match ds with
  | [] => simp [lns]
  | d :: r =>
    have := ln_rT 93 r
    simp only [List.length_cons, List.length_append, this]
    simp only [lns, ln]
    omega
theorem lns_le {c : Nat} : ∀ {ds : List D}, (∀ d ∈ ds, ln d ≤ c) → lns ds ≤ ds.length * (c + 2)
  | [], _ => by simp [lns]
  | d :: ds, h => by
    have h1 := h d (List.mem_cons_self ..)
    have h2 := lns_le (ds := ds) fun e he => h e (List.mem_cons_of_mem _ he)
    simp only [lns, List.length_cons, Nat.succ_mul]
    omega
theorem ln_bl (b : Bool) : ln (.bl b) ≤ 5 := by unfold ln; rw [shL_bl]; cases b <;> decide
theorem ln_int {i : Int} (h : smD (.int i) = true) : ln (.int i) ≤ 13 := by
  have k := sm_short (.int i) h
  simp only [pyD, PyData.intsShort, decide_eq_true_eq] at k
  rw [← len_ln]
  exact k
theorem smi {i : Int} (h0 : 0 ≤ i) (h1 : i ≤ 1890) : smD (.int i) = true := by
  simp only [smD, decide_eq_true_eq]
  omega
theorem ln_w1 : ln (.str "tick") = 6 ∧ ln (.str "some") = 6 ∧ ln (.str "loop") = 6 ∧ ln (.str "either") = 8 ∧ ln (.str "row") = 5 ∧ ln (.str "beside") = 8 := by
  refine ⟨?_, ?_, ?_, ?_, ?_, ?_⟩ <;> (unfold ln; rw [shL_str (by decide +kernel)]; decide +kernel)
mutual
theorem ln_w : ∀ w : Wk, okW 999 w → ln (toD w) + 2 ≤ 25 * zW w
  | .tick n, h => by
    rw [okW] at h
    have h1 := ln_tup [.str "tick", .int n]
    have h2 := ln_int (smi (i := n) (by omega) (by omega))
    have h3 := ln_w1
    rw [toD, zW]
    simp only [lns] at h1
    omega
  | .sme a b t, h => by
    rw [okW] at h
    have h1 := ln_tup [.str "some", .int a, .int b, .bl t]
    have h2 := ln_int (smi (i := a) (by omega) (by omega))
    have h3 := ln_int (smi (i := b) (by omega) (by omega))
    have h4 := ln_bl t
    have h5 := ln_w1
    rw [toD, zW]
    simp only [lns] at h1
    omega
  | .lop a b t w, h => by
    rw [okW] at h
    have ih := ln_w w h.2.2.2
    have h1 := ln_tup [.str "loop", .int a, .int b, .bl t, toD w]
    have h2 := ln_int (smi (i := a) (by omega) (by omega))
    have h3 := ln_int (smi (i := b) (by omega) (by omega))
    have h4 := ln_bl t
    have h5 := ln_w1
    have hm : 1 * (zW w + 1) ≤ (b.toNat + 1) * (zW w + 1) := Nat.mul_le_mul (by omega) (by omega)
    rw [toD, zW]
    simp only [lns] at h1
    omega
  | .eit ws, h => by
    rw [okW] at h
    have ih := ln_ws ws h.2
    have h1 := ln_tup [.str "either", .tup (toDs ws)]
    have h2 := ln_tup (toDs ws)
    have h5 := ln_w1
    rw [toD, zW]
    simp only [lns] at h1
    omega
  | .row ws, h => by
    rw [okW] at h
    have ih := ln_ws ws h
    have h1 := ln_tup [.str "row", .tup (toDs ws)]
    have h2 := ln_tup (toDs ws)
    have h5 := ln_w1
    rw [toD, zW]
    simp only [lns] at h1
    omega
  | .bes a b, h => by
    rw [okW] at h
    have i1 := ln_w a h.1
    have i2 := ln_w b h.2
    have h1 := ln_tup [.str "beside", toD a, toD b]
    have h5 := ln_w1
    rw [toD, zW]
    simp only [lns] at h1
    omega
theorem ln_ws : ∀ ws : List Wk, okWs 999 ws → lns (toDs ws) ≤ 25 * zWs ws
  | [], _ => by simp [toDs, lns]
  | w :: ws, h => by
    rw [okWs] at h
    have i1 := ln_w w h.1
    have i2 := ln_ws ws h.2
    simp only [toDs, lns, zWs]
    omega
end
mutual
theorem cl_w : ∀ w : Wk, cleanD (toD w) = true
  | .tick n => by have : cleanS "tick" = true := by decide +kernel
                  simp [toD, cleanD, cleanDs, this]
  | .sme a b t => by have : cleanS "some" = true := by decide +kernel
                     simp [toD, cleanD, cleanDs, this]
  | .lop a b t w => by have : cleanS "loop" = true := by decide +kernel
                       have h := cl_w w
                       simp [toD, cleanD, cleanDs, this, h]
  | .eit ws => by have : cleanS "either" = true := by decide +kernel
                  have h := cl_ws ws
                  simp [toD, cleanD, cleanDs, this, h]
  | .row ws => by have : cleanS "row" = true := by decide +kernel
                  have h := cl_ws ws
                  simp [toD, cleanD, cleanDs, this, h]
  | .bes a b => by have : cleanS "beside" = true := by decide +kernel
                   have h1 := cl_w a
                   have h2 := cl_w b
                   simp [toD, cleanD, cleanDs, this, h1, h2]
theorem cl_ws : ∀ ws : List Wk, cleanDs (toDs ws) = true
  | [] => by simp [toDs, cleanDs]
  | w :: ws => by
    have h1 := cl_w w
    have h2 := cl_ws ws
    simp [toDs, cleanDs, h1, h2]
end
theorem cl_st (q : Sta) : cleanD (itD q) = true := by
  have := cl_w q.2
  simp [itD, cleanD, cleanDs, this]
theorem sh_st {q r : Sta} (h : shD (itD q) = shD (itD r)) : q = r := it_inj (shD_inj (cl_st q) (cl_st r) h)
structure StOk (q : Sta) : Prop where
  b : BdT q.2
  n0 : 0 ≤ q.1
  n1 : q.1 ≤ 1890
theorem Rch.ok {w : Wk} (hw : Bd w) {q : Sta} (h : Rch w q) : StOk q := ⟨h.bd hw, (h.num hw).1, (h.num hw).2⟩
theorem StOk.sm {q : Sta} (h : StOk q) : smD (itD q) = true := by
  have h1 := smi h.n0 h.n1
  have h2 := h.b.1.sm
  simp only [itD, smD, smDs, Bool.and_true, Bool.and_eq_true] at h1 ⊢
  exact ⟨h1, h2⟩
theorem StOk.dep {q : Sta} (h : StOk q) : depD (itD q) ≤ 22 := by
  have := h.b.1.dep
  simp only [itD, depD, depDs]; omega
theorem StOk.len {q : Sta} (h : StOk q) : ln (itD q) ≤ 6768 := by
  have h1 := ln_tup [.int q.1, toD q.2]
  have h2 := ln_int (smi h.n0 h.n1)
  have h3 := ln_w q.2 h.b.1.o
  have h4 := h.b.1.z
  simp only [lns] at h1
  unfold itD
  omega
theorem StOk.shw {q : Sta} (h : StOk q) : Shw (itD q) := by
  refine ⟨rfl, okD_of h.sm (by have := h.dep; omega), sm_few _ h.sm, ?_⟩
  rw [len_ln, sizeL]
  have := h.len
  omega
theorem sts_sm {S : List Sta} (h : ∀ q ∈ S, StOk q) : smDs (S.map itD) = true ∧ depDs (S.map itD) ≤ 22 := by
  refine ⟨?_, ?_⟩
  · rw [smDs_iff]
    intro d hd
    obtain ⟨q, hq, rfl⟩ := List.mem_map.mp hd
    exact (h q hq).sm
  · exact depDs_le fun d hd => by obtain ⟨q, hq, rfl⟩ := List.mem_map.mp hd; exact (h q hq).dep
end K23
namespace K23
open PySem L2 Dl K17 K18 K24
local macro_rules | `(tactic| walk_at "ds") => `(tactic| repeat' with_reducible first
  | refine iVar (by with_unfolding_all rfl) ?_
  | refine iCons ?_
  | refine iNil ?_
  | refine iC ?_
  | refine iOp ?_
  | refine iSeq ?_
  | refine iAsg ?_
  | refine iGNm ?_
  | refine iTup ?_
  | refine iFrz ?_
  | refine iTst ?_
  | refine iIfS ?_
  | refine iRet ?_
  | refine iCall ?_
  | refine iLst ?_
  | refine iNext ?_
  | refine lstP_i (by assumption) ?_
  | refine lstP_i updG_same ?_
  | refine iDrop ?_
  | refine iGTp (by with_unfolding_all rfl) ?_
  | refine iGsCons ?_
  | refine iGsNil ?_
  | refine iGSb ?_
  | refine lenOk (by with_unfolding_all rfl) ?_
  | refine frzEnd ?_
  | refine ifT ?_
  | refine ifF ?_
  | refine iCB ?_
  | refine iMt ?_
  | refine iFor ?_
  | refine iISq ?_
  | refine add_ii ?_
  | refine tupC_l ?_
  | refine intC_b ?_
  | refine iPsC ?_
  | refine iPsN ?_
  | fail "stuck")
def kvS (v : Sta → D) (q : Sta) : Key × D := (.inr (shD (itD q)), v q)
theorem getK_S (v : Sta → D) {t : Sta} : ∀ {S : List Sta}, (t ∈ S → (getK (S.map (kvS v)) (.inr (shD (itD t)))).isSome = true) ∧ (t ∉ S → getK (S.map (kvS v)) (.inr (shD (itD t))) = none)
  | [] => ⟨fun h => (by cases h), fun _ => rfl⟩
  | q :: S => by
    have ih := getK_S v (t := t) (S := S)
    rw [List.map_cons]
    unfold getK
    by_cases e : q = t
    · subst e
      refine ⟨fun _ => ?_, fun h => absurd (List.mem_cons_self ..) h⟩
      simp [kvS]
    · have ne : ¬ (kvS v q).1 = Sum.inr (shD (itD t)) := fun z => e (sh_st (by simpa [kvS] using z))
      refine ⟨fun h => ?_, fun h => ?_⟩
      · rcases List.mem_cons.mp h with z | z
        · exact absurd z.symm e
        · have := ih.1 z
          first | (rw [if_neg ne]; exact this) | (simp only [ne, if_false]; exact this) | (simp [ne]; exact this)
      · have := ih.2 fun z => h (List.mem_cons_of_mem _ z)
        first | (rw [if_neg ne]; exact this) | (simp only [ne, if_false]; exact this) | (simp [ne]; exact this)
theorem repr_s {q : Sta} {G : GH} {Q : DK} (e : Shw (itD q)) (h : Q (.str (shD (itD q))) G) : rRepr [itD q] G Q := repr_t e h
theorem sts_ok {S : List Sta} (h : ∀ q ∈ S, StOk q) : okD (.lst (S.map itD)) := by
  obtain ⟨h1, h2⟩ := sts_sm h
  exact okD_of (by rw [smD]; exact h1) (by rw [depD]; omega)
end K23
namespace K23
open PySem L2 Dl K17 K18 K24
local macro_rules | `(tactic| walk_at "ds") => `(tactic| repeat' with_reducible first
  | refine iVar (by with_unfolding_all rfl) ?_
  | refine iCons ?_
  | refine iNil ?_
  | refine iC ?_
  | refine iOp ?_
  | refine iSeq ?_
  | refine iAsg ?_
  | refine iGNm ?_
  | refine iTup ?_
  | refine iFrz ?_
  | refine iTst ?_
  | refine iIfS ?_
  | refine iRet ?_
  | refine iCall ?_
  | refine iLst ?_
  | refine iNext ?_
  | refine lstP_i (by assumption) ?_
  | refine lstP_i updG_same ?_
  | refine iDrop ?_
  | refine iPar ?_
  | refine iGTp (by with_unfolding_all rfl) ?_
  | refine iGsCons ?_
  | refine iGsNil ?_
  | refine iGSb ?_
  | refine lenOk (by with_unfolding_all rfl) ?_
  | refine frzEnd ?_
  | refine ifT ?_
  | refine ifF ?_
  | refine iCB ?_
  | refine iMt ?_
  | refine iFor ?_
  | refine iISq ?_
  | refine add_ii ?_
  | refine tupC_l ?_
  | refine iPsC ?_
  | refine iPsN ?_
  | fail "stuck")
end K23
namespace K23
open PySem L2 Dl K17 K18 K24
local macro_rules | `(tactic| walk_at "ds") => `(tactic| repeat' with_reducible first
  | refine iVar (by with_unfolding_all rfl) ?_
  | refine iCons ?_
  | refine iNil ?_
  | refine iC ?_
  | refine iOp ?_
  | refine iSeq ?_
  | refine iAsg ?_
  | refine iGNm ?_
  | refine iTup ?_
  | refine iFrz ?_
  | refine iTst ?_
  | refine iIfS ?_
  | refine iRet ?_
  | refine iCall ?_
  | refine iLst ?_
  | refine iNext ?_
  | refine lstP_i (by assumption) ?_
  | refine lstP_i updG_same ?_
  | refine iDrop ?_
  | refine iGTp (by with_unfolding_all rfl) ?_
  | refine iGsCons ?_
  | refine iGsNil ?_
  | refine iGSb ?_
  | refine lenOk (by with_unfolding_all rfl) ?_
  | refine frzEnd ?_
  | refine iTru ?_
  | refine truB ?_
  | refine iAnd ?_
  | refine iAndVK ?_
  | refine iIf ?_
  | refine ifT ?_
  | refine ifF ?_
  | refine iCB ?_
  | refine iMt ?_
  | refine iFor ?_
  | refine iISq ?_
  | refine rIx_i (by with_unfolding_all rfl) (by with_unfolding_all rfl) ?_
  | refine rIx_i (by with_unfolding_all rfl) atI_0 ?_
  | refine eq_ii ?_
  | refine add_ii ?_
  | refine int0 ?_
  | refine len_l ?_
  | refine iPsC ?_
  | refine iPsN ?_
  | fail "stuck")
def spSm : DSp := fun ds G Q _ => ∃ w, ds = [toD w] ∧ Bd w ∧ ∀ b G', (b = true → Few 200 w) → Grow G G' → Q (.bl b) G'
theorem law_is_small_rd : ∀ ds G Q E, spSm ds G Q E → r_law_is_small (spEnd 30) (pSp (RX 56)) (pSp RA) (pSp (RIt 40)) (pSp (RT 60)) { nx := fun _ G' => Q .non G', rt := Q } (startD 7 ds) G := by
  rintro ds G Q E ⟨w, rfl, hw, hq⟩
  unfold r_law_is_small
  have hz := hw.z
  have hd := hw.dp
  have h0 : StOk (0, tidyW w) := (Rch.beg (w := w)).ok hw
  walk_at "ds"
  refine ⟨_, rt_at hw.o (by omega) (by omega), fun G1 g1 => ?_⟩
  walk_at "ds"
  intro p1 hp1
  have hp1' : G p1 = none := by cases e : G p1 with
    | none => rfl
    | some o => rw [g1 _ _ e] at hp1; cases hp1
  walk_at "ds"
  refine iDisp fun p2 hp2 => ?_
  have h12 : p1 ≠ p2 := by rintro rfl; rw [updG_same] at hp2; cases hp2
  have hp2' : G p2 = none := by cases e : G p2 with
    | none => rfl
    | some o => rw [updG_ne h12.symm, g1 _ _ e] at hp2; cases hp2
  walk_at "ds"
  refine rIx_r (by rw [updG_ne h12]; exact updG_same) atI_0 ?_
  walk_at "ds"
  refine repr_t h0.shw ?_
  walk_at "ds"
  refine dispEnd updG_same (by with_unfolding_all rfl) (by rfl) ?_
  refine iGNm ?_
  refine iSeq ?_
  refine dWhile_of (I := fun n ρ G' => ∃ (S W : List Sta) (x3 x4 x5 x6 : Option D), ρ = [some (toD w), some (.ref p1), some (.ref p2), x3, x4, x5, x6] ∧ Bf w S W ∧ n ≤ 400 ∧ W.length + (400 - n) = S.length ∧ S.length ≤ 100000 ∧
    Grow G G' ∧ G' p1 = some (.lst (W.map itD)) ∧ G' p2 = some (.dct (S.map (kvS fun _ => .int 1)))) ?_ 400 _ _ ?_
  · rintro n ρ G' ⟨S, W, x3, x4, x5, x6, rfl, hb, hn, hl, hS1, gr, e1, e2⟩ K hK
    have okS : ∀ q ∈ S, StOk q := fun q hq => (hb.rch q hq).ok hw
    have out : (S.length ≤ 200 → Few 200 w) → dRet (dAndV (dOp rLe (dCB rLen (dCons (dVar 2) dNil)) (dC (.int 200))) (dOp rLe (dCall (spEnd 30) (dCons (dVar 0) (dCons (dC (.bl false)) dNil))) (dC (.int 60)))) { nx := fun _ G' => Q .non G', rt := Q } [some (toD w), some (.ref p1), some (.ref p2), x3, x4, x5, x6] G' := by
      intro hfw
      walk_at "ds"
      refine len_d e2 ?_
      rw [List.length_map]
      walk_at "ds"
      refine andVD (fun h => ?_) (fun h => ?_)
      · walk_at "ds"
        refine ⟨w, false, rfl, hw.o, by omega, by omega, fun i G2 g2 => ?_⟩
        walk_at "ds"
        exact hq _ _ (fun _ => hfw (by omega)) (gr.trans g2)
      · exact hq _ _ (fun z => by cases z) gr
    walk_at "ds"
    refine ne_rl e1 (sts_ok fun q hq => okS q (hb.sub q hq)) okNil ?_
    rcases List.eq_nil_or_concat W with rfl | ⟨V, q, rfl⟩
    · rw [show eqvD (.lst (([] : List Sta).map itD)) (.lst []) = true from by simp [eqvD, eqvDs]]
      refine ifF ?_
      refine ifF ?_
      refine out fun h => ?_
      exact fun T nd hT => Nat.le_trans (hb.all.few T nd hT) h
    · rw [List.concat_eq_append] at *
      rw [show eqvD (.lst ((V ++ [q]).map itD)) (.lst []) = false from by cases V <;> simp [eqvD, eqvDs]]
      refine ifT ?_
      walk_at "ds"
      refine len_d e2 ?_
      rw [List.length_map]
      walk_at "ds"
      refine ifD (fun h => ?_) (fun h => out fun z => absurd (by omega) h)
      have hS : S.length ≤ 200 := by omega
      have hn0 : 0 < n := by
        rw [List.length_append, List.length_singleton] at hl
        omega
      have hqS := hb.sub q (by simp)
      have oq := okS q hqS
      have hqz := oq.b.1.z
      have hqd := oq.b.2
      have hnl := oq.b.1.nxs.2.2.2
      rw [List.map_append] at e1
      replace e1 : G' p1 = some (.lst (V.map itD ++ [.tup [.int q.1, toD q.2]])) := e1
      walk_at "ds"
      refine pop_i e1 ?_
      have gr1 : Grow G (updG G' p1 (.lst (V.map itD))) := Grow.upd2 hp1' gr
      walk_at "ds"
      refine ⟨.lst ((nxW q.2).map sgD), rx_at oq.b.1.o (by omega) (by omega), fun G2 g2 => ?_⟩
      walk_at "ds"
      refine dForGo_of (I := fun rest ρ G3 => ∃ (S2 W2 : List Sta) (ss : List Sg) (y5 y6 : Option D), rest = ss.map sgD ∧ ρ = [some (toD w), some (.ref p1), some (.ref p2), some (.int q.1), some (toD q.2), y5, y6] ∧ Bi w S2 W2 q ss ∧
        W2.length + (400 - (n - 1)) = S2.length ∧ S2.length + ss.length ≤ 2000 ∧ Grow G G3 ∧ G3 p1 = some (.lst (W2.map itD)) ∧ G3 p2 = some (.dct (S2.map (kvS fun _ => .int 1)))) ?_ ?_ _ _ _ ?_
      · rintro ρ G3 ⟨S2, W2, ss, y5, y6, er, rfl, bi, hn2, hl2, g3, a1, a2⟩
        have : ss = [] := by cases ss with | nil => rfl | cons => cases er
        subst this
        exact ⟨trivial, hK (n - 1) (by omega) _ _ ⟨S2, W2, _, _, _, _, rfl, bi.done, by omega, hn2, by omega, g3, a1, a2⟩⟩
      · rintro x rest ρ G3 ⟨S2, W2, ss, y5, y6, er, rfl, bi, hn2, hl2, g3, a1, a2⟩ K2 hK2
        cases ss with
        | nil => cases er
        | cons s ss =>
          injection er with er1 er2
          subst er1 er2
          rw [List.length_cons] at hl2
          have hs := bi.sg s (List.mem_cons_self ..)
          have ot : StOk (stp q s) := (Rch.go (bi.rch q bi.mq) hs).ok hw
          have sdp := (oq.b.1.th2 hs).2.1
          refine ⟨trivial, ?_⟩
          walk_at "ds"
          refine ⟨_, ⟨s, rfl, by omega, rfl⟩, fun G4 g4 => ?_⟩
          walk_at "ds"
          refine ⟨_, ⟨q.2, s, rfl, oq.b.1.o, by omega, by omega, hs, rfl⟩, fun G5 g5 => ?_⟩
          have g45 := g4.trans g5
          have b1 := g45 _ _ a1
          have b2 := g45 _ _ a2
          walk_at "ds"
          rw [show D.tup [.int (q.1 + tk1 s), toD (tidyW (behW q.2 s))] = itD (stp q s) from rfl]
          refine repr_s ot.shw ?_
          walk_at "ds"
          refine dIn_i b2 ?_
          have gk := getK_S (fun _ => .int 1) (t := stp q s) (S := S2)
          by_cases hm : stp q s ∈ S2
          · rw [gk.1 hm]
            refine ifF ?_
            refine iNext ?_
            exact hK2 _ _ ⟨S2, W2, ss, _, _, rfl, rfl, bi.old hm, hn2, by omega, g3.trans g45, b1, b2⟩
          · have hg := gk.2 hm
            rw [hg]
            refine ifT ?_
            walk_at "ds"
            refine repr_s ot.shw ?_
            refine sDct_i b2 (by rw [List.length_map, sizeL]; omega) ?_
            rw [putD_new hg]
            walk_at "ds"
            have c1 := (updG_ne (G := G5) (a := p2) (b := p1) (o := .dct (S2.map (kvS fun _ => .int 1) ++ [(.inr (shD (itD (stp q s))), .int 1)])) h12).trans b1
            have hW := len_sub bi.wn bi.sub
            refine lstP_i c1 ?_
            walk_at "ds"
            refine app_i c1 (by rw [List.length_map, sizeL]; omega) ?_
            refine hK2 _ _ ⟨S2 ++ [stp q s], W2 ++ [stp q s], ss, _, _, rfl, rfl, bi.new hm, ?_, ?_, Grow.upd2 hp1' (Grow.upd2 hp2' (g3.trans g45)), ?_, ?_⟩
            · rw [List.length_append, List.length_append, List.length_singleton]; omega
            · rw [List.length_append, List.length_singleton]; omega
            · rw [updG_same, List.map_append]; rfl
            · rw [updG_ne h12.symm, updG_same, List.map_append]; rfl
      · refine ⟨S, V, nxW q.2, _, _, rfl, rfl, hb.pop, ?_, by omega, gr1.trans g2, g2 _ _ updG_same, g2 _ _ (by rw [updG_ne h12.symm]; exact e2)⟩
        rw [List.length_append, List.length_singleton] at hl
        omega
  · refine ⟨[(0, tidyW w)], [(0, tidyW w)], none, none, none, none, rfl, Bf.start w, by omega, rfl, by simp, ?_, ?_, ?_⟩
    · exact Grow.upd2 hp2' (Grow.upd2 hp2' (Grow.upd2 hp1' g1))
    · rw [updG_ne h12, updG_ne h12, updG_same]; rfl
    · rw [updG_same]; rfl
theorem few_le {m n : Nat} {w : Wk} (h : Few m w) (k : m ≤ n) : Few n w := fun S nd hS => Nat.le_trans (h S nd hS) k
theorem few_by {n : Nat} {w : Wk} (h : (srch n [(0, tidyW w)] [(0, tidyW w)]).2.isEmpty = true) (k : (allB n w).length ≤ 600) : Few 600 w := few_le (all_of (by simpa using h)).few k
theorem few_rnd (t : Bool) : Few 600 (wRnd t) := by cases t <;> exact few_by (n := 60) (by decide +kernel) (by decide +kernel)
end K23
namespace K23
open PySem L2 Dl K17 K18 K24
local macro_rules | `(tactic| walk_at "ds") => `(tactic| repeat' with_reducible first
  | refine iVar (by with_unfolding_all rfl) ?_
  | refine iCons ?_
  | refine iNil ?_
  | refine iC ?_
  | refine iOp ?_
  | refine iSeq ?_
  | refine iAsg ?_
  | refine iGNm ?_
  | refine iTup ?_
  | refine iFrz ?_
  | refine iTst ?_
  | refine iIfS ?_
  | refine iRet ?_
  | refine iCall ?_
  | refine iLst ?_
  | refine iNext ?_
  | refine iPar ?_
  | refine lenOk (by with_unfolding_all rfl) ?_
  | refine frzEnd ?_
  | refine lstC_t ?_
  | refine iTru ?_
  | refine truB ?_
  | refine iAnd ?_
  | refine iOr ?_
  | refine iNot ?_
  | refine iAndVK ?_
  | refine andVT ?_
  | refine ifF ?_
  | refine iCB ?_
  | refine iFor ?_
  | refine iISq ?_
  | refine rIx_i (by with_unfolding_all rfl) (by with_unfolding_all rfl) ?_
  | refine rIx_i (by with_unfolding_all rfl) atI_0 ?_
  | refine eq_strT ?_
  | refine eq_ii ?_
  | refine ne_ii ?_
  | refine len_t ?_
  | refine iIRg1 ?_
  | refine add_llb (by with_unfolding_all rfl) ?_
  | refine ifNT ?_
  | refine ifNDT (by with_reducible_and_instances first | omega | (simp only [List.length_cons, List.length_nil]; omega)) ?_
  | fail "stuck")
def jobs3 : List Wk := [.row [], .row [.row [], .row [.tick 1, .tick 2]], .eit [.tick 2, .row [], .tick 1]]
def Good (w : Wk) : Prop := Bd w ∧ Few 600 w
theorem good_by {n : Nat} {w : Wk} (b : Bd w) (h : (srch n [(0, tidyW w)] [(0, tidyW w)]).2.isEmpty = true) (k : (allB n w).length ≤ 600) : Good w := ⟨b, few_by h k⟩
theorem good3 : ∀ w ∈ jobs3, Good w := by
  intro w hw
  simp only [jobs3, List.mem_cons, List.not_mem_nil, or_false] at hw
  rcases hw with rfl | rfl | rfl
  · exact good_by (n := 5) (bd_dec (by simp [okW, okWs]) (by decide) (by decide) (by decide)).1 (by decide +kernel) (by decide +kernel)
  · exact good_by (n := 20) (bd_dec (by simp [okW, okWs]) (by decide) (by decide) (by decide)).1 (by decide +kernel) (by decide +kernel)
  · exact good_by (n := 20) (bd_dec (by simp [okW, okWs]) (by decide) (by decide) (by decide)).1 (by decide +kernel) (by decide +kernel)
theorem good_great : ∀ w ∈ [wG1, wG2, wG3], Good w := by
  intro w hw
  simp only [List.mem_cons, List.not_mem_nil, or_false] at hw
  rcases hw with rfl | rfl | rfl
  · exact good_by (n := 700) (bd_dec (by simp [wG1, okW, okWs]) (by decide) (by decide) (by decide)).1 (by decide +kernel) (by decide +kernel)
  · exact good_by (n := 700) (bd_dec (by simp [wG2, okW, okWs]) (by decide) (by decide) (by decide)).1 (by decide +kernel) (by decide +kernel)
  · exact good_by (n := 700) (bd_dec (by simp [wG3, okW, okWs]) (by decide) (by decide) (by decide)).1 (by decide +kernel) (by decide +kernel)
theorem good_sides : Good wSides := good_by (n := 40) (bd_dec (by simp [wSides, okW]) (by decide) (by decide) (by decide)).1 (by decide +kernel) (by decide +kernel)
theorem good_rnd (t : Bool) : Good (wRnd t) := ⟨bd_rnd t, few_rnd t⟩
theorem noRIt0 (ds : List D) (G : GH) (Q : DK) (E : DXK) : ¬ pSp (RIt 0) ds G Q E := fun ⟨_, ⟨s, _, h, _⟩, _⟩ => by omega
end K23
namespace K22
open PySem L2 Dl K17 K18 K24 K20 K28 K27 K23
local macro_rules | `(tactic| walk_at "ds") => `(tactic| repeat' with_reducible first
  | refine iVar (by with_unfolding_all rfl) ?_
  | refine iCons ?_
  | refine iNil ?_
  | refine iC ?_
  | refine iOp ?_
  | refine iSeq ?_
  | refine iAsg ?_
  | refine iGNm ?_
  | refine iFrz ?_
  | refine iTst ?_
  | refine iIfS ?_
  | refine iRet ?_
  | refine iCall ?_
  | refine iLst ?_
  | refine iNext ?_
  | refine iDGet ?_
  | refine iNewK ?_
  | refine dctP_i (by assumption) ?_
  | refine dctP_i updG_same ?_
  | refine iGTp (by with_unfolding_all rfl) ?_
  | refine iGsCons ?_
  | refine iGsNil ?_
  | refine iGSb ?_
  | refine lenOk (by with_unfolding_all rfl) ?_
  | refine frzEnd ?_
  | refine iIf ?_
  | refine ifT ?_
  | refine ifF ?_
  | refine iCB ?_
  | refine iFor ?_
  | refine iISq ?_
  | refine add_ii ?_
  | refine keyP_s ?_
  | refine iPsC ?_
  | refine iPsN ?_
  | fail "stuck")
def RchW (W v : Wk) : Prop := ∃ d : Int, Rch W (d, v)
theorem RchW.beg (W : Wk) : RchW W (tidyW W) := ⟨0, .beg⟩
theorem RchW.go {W v : Wk} {s : Sg} (h : RchW W v) (hs : s ∈ nxW v) : RchW W (aft v s) := by
  obtain ⟨d, h⟩ := h
  exact ⟨d + tk1 s, Rch.go (q := (d, v)) h hs⟩
theorem RchW.bd {W v : Wk} (hW : Bd W) (h : RchW W v) : BdT v := by obtain ⟨d, h⟩ := h; exact h.bd hW
theorem RchW.td {W v : Wk} (h : RchW W v) : tidyW v = v := by
  obtain ⟨d, h⟩ := h
  generalize hq : (d, v) = q at h
  have : tidyW q.2 = q.2 := by
    cases h with
    | beg => exact (tidy_idem W).1
    | go _ _ => exact (tidy_idem _).1
  rw [← hq] at this
  exact this
theorem few_w {n : Nat} {W : Wk} (h : Few n W) {vs : List Wk} (nd : vs.Nodup) (hr : ∀ v ∈ vs, RchW W v) : vs.length ≤ n := by
  have key : ∀ vs : List Wk, (∀ v ∈ vs, RchW W v) → ∃ S : List Sta, S.map (·.2) = vs ∧ ∀ q ∈ S, Rch W q := by
    intro vs
    induction vs with
    | nil => intro _; exact ⟨[], rfl, fun q hq => (by cases hq)⟩
    | cons v vs ih =>
      intro h
      obtain ⟨d, hd⟩ := h v (List.mem_cons_self ..)
      obtain ⟨S, h1, h2⟩ := ih fun u hu => h u (List.mem_cons_of_mem _ hu)
      refine ⟨(d, v) :: S, by rw [List.map_cons, h1], fun q hq => ?_⟩
      rcases List.mem_cons.mp hq with z | z
      · rw [z]; exact hd
      · exact h2 q z
  obtain ⟨S, h1, h2⟩ := key vs hr
  have ns : S.Nodup := by
    rw [← h1] at nd
    exact List.Pairwise.of_map (·.2) (fun a b hab e => hab (by rw [e])) nd
  have := h S ns h2
  rw [← h1, List.length_map]
  exact this
theorem toDw_inj {u v : Wk} (h : toD u = toD v) : u = v := by
  have := it_inj (q := (0, u)) (r := (0, v)) (by unfold itD; rw [h])
  exact (Prod.mk.inj this).2
theorem sh_w {u v : Wk} (h : shD (toD u) = shD (toD v)) : u = v := toDw_inj (shD_inj (cl_w u) (cl_w v) h)
def rowsD (w : Wk) : D := .lst ((rowsW w).map rowD)
def kvK (v : Wk) : Key × D := (.inr (shD (toD v)), rowsD v)
theorem getK_K {t : Wk} : ∀ {S : List Wk}, (t ∈ S → getK (S.map kvK) (.inr (shD (toD t))) = some (rowsD t)) ∧ (t ∉ S → getK (S.map kvK) (.inr (shD (toD t))) = none)
  | [] => ⟨fun h => (by cases h), fun _ => rfl⟩
  | v :: S => by
    obtain ⟨h1, h2⟩ := getK_K (t := t) (S := S)
    show (_ → (if (Sum.inr (shD (toD v)) : Key) = .inr (shD (toD t)) then some (rowsD v) else getK (S.map kvK) (.inr (shD (toD t)))) = _) ∧ (_ → (if (Sum.inr (shD (toD v)) : Key) = .inr (shD (toD t)) then some (rowsD v) else getK (S.map kvK) (.inr (shD (toD t)))) = _)
    by_cases e : v = t
    · subst e
      rw [if_pos rfl]
      exact ⟨fun _ => rfl, fun z => absurd (List.mem_cons_self ..) z⟩
    · rw [if_neg fun z => e (sh_w (Sum.inr.inj z))]
      refine ⟨fun z => ?_, fun z => h2 fun y => z (List.mem_cons_of_mem _ y)⟩
      rcases List.mem_cons.mp z with y | y
      · exact absurd y.symm e
      · exact h1 y
theorem putK_K (v : Wk) (S : List Wk) : putD (S.map kvK) (.inr (shD (toD v))) (rowsD v) = (if v ∈ S then S else S ++ [v]).map kvK := by
  unfold putD
  by_cases hv : v ∈ S
  · rw [if_pos hv, if_pos (List.any_eq_true.mpr ⟨kvK v, List.mem_map.mpr ⟨v, hv, rfl⟩, by simp [kvK]⟩), List.map_map]
    refine List.map_congr_left fun u hu => ?_
    simp only [Function.comp]
    by_cases e : (kvK u).1 = .inr (shD (toD v))
    · rw [if_pos e]
      have := sh_w (Sum.inr.inj e)
      rw [this]; rfl
    · rw [if_neg e]
  · rw [if_neg hv, if_neg (by
      intro z
      obtain ⟨p, hp, e⟩ := List.any_eq_true.mp z
      obtain ⟨u, hu, rfl⟩ := List.mem_map.mp hp
      have := sh_w (Sum.inr.inj (of_decide_eq_true e))
      rw [this] at hu
      exact hv hu), List.map_append]
    rfl
def KnAt (W : Wk) (G : GH) (a : Addr) : Prop := ∃ vs : List Wk, G a = some (.dct (vs.map kvK)) ∧ vs.Nodup ∧ ∀ v ∈ vs, RchW W v
theorem KnAt.keep {W : Wk} {G G' : GH} {a : Addr} (h : KnAt W G a) (g : ∀ o, G a = some o → G' a = some o) : KnAt W G' a := by
  obtain ⟨vs, h1, h2⟩ := h
  exact ⟨vs, g _ h1, h2⟩
theorem rows_tot {w : Wk} (ho : okW 12 w) (hm : mW w < 2000) (g : Nat → Nat) : tot (rowsW w) g = ev w g := by
  have h1 : ev w g = ev w fun k => sm (List.range 2000) fun n => g n * dl n k := by
    have pt : ∀ k, k ≤ mW w → g k = sm (List.range 2000) fun n => g n * dl n k := fun k hk => by
      have key : ∀ N, k < N → (sm (List.range N) fun n => g n * dl n k) = g k := by
        intro N
        induction N with
        | zero => intro h; omega
        | succ N ih =>
          intro h
          rw [List.range_succ, sm_app, sm_cons, sm_nil]
          by_cases e : k = N
          · have z : (sm (List.range N) fun n => g n * dl n k) = 0 := by
              rw [← sm_zero (List.range N)]
              refine sm_congr fun n hn => ?_
              rw [List.mem_range] at hn
              unfold dl; rw [if_neg (by omega), Nat.mul_zero]
            rw [z, e]; unfold dl; rw [if_pos rfl]; omega
          · rw [ih (by omega)]; unfold dl; rw [if_neg e]; omega
      exact (key 2000 (by omega)).symm
    exact Nat.le_antisymm (ev_mn w ho _ _ fun k _ h => by rw [← pt k h]; exact Nat.le_refl _) (ev_mn w ho _ _ fun k _ h => by rw [← pt k h]; exact Nat.le_refl _)
  rw [h1, (ev_lin w).sm]
  unfold tot rowsW
  have key : ∀ l : List Nat, (sm ((l.map fun n => (n, ev w (dl n))).filter fun p => decide (0 < p.2)) fun p => p.2 * g p.1) = sm l fun n => ev w fun k => g n * dl n k := by
    intro l
    induction l with
    | nil => rfl
    | cons n l ih =>
      rw [List.map_cons, List.filter_cons, sm_cons, (ev_lin w).mul]
      by_cases e : 0 < ev w (dl n)
      · rw [if_pos (decide_eq_true e), sm_cons, ih, Nat.mul_comm]
      · rw [if_neg (by simpa using e), ih, show ev w (dl n) = 0 from by omega, Nat.mul_zero]; omega
  exact key _
theorem nx_some {v : Wk} (ho : okW 12 v) (ht : tidyW v = v) (h : isOver v = false) : nxW v ≠ [] := by
  intro e
  have h1 := ev_step v ho ht h fun _ => 1
  rw [e, sm_nil] at h1
  have h2 : 1 ≤ ev v fun _ => 1 := ev_sh v ho fun _ => 1
  omega
def spLen (n : Nat) : DSp := fun ds G Q _ => ∃ v a, ds = [toD v, .ref a] ∧ ∃ W, Bd W ∧ Few 600 W ∧ RchW W v ∧ mW v < n ∧ KnAt W G a ∧ ∀ G', KnAt W G' a → KeepX a G G' → Q (rowsD v) G'
theorem noLen0 (ds : List D) (G : GH) (Q : DK) (E : DXK) : ¬ spLen 0 ds G Q E := fun ⟨_, _, _, _, _, _, _, h, _⟩ => by omega
theorem nat_pairs : ∀ (l : List (Nat × Nat)), kvT l = (l.map fun p => ((p.1 : Int), (p.2 : Int))).map fun q : Int × Int => (Sum.inl q.1, D.int q.2)
  | [] => rfl
  | p :: l => by rw [List.map_cons, List.map_cons, ← nat_pairs l]; rfl
theorem sortI_row {l : List (Nat × Nat)} {w : Wk} {B : Nat} {ps : List (Int × Int)} (hn : (l.map (·.1)).Nodup) (hp : ∀ x ∈ l, 1 ≤ x.2) (hb : ∀ x ∈ l, x.1 ≤ B) (hB : B < 2000) (ho : okW 12 w) (hw : mW w < 2000) (he : ∀ f, tot l f = ev w f)
    (pm : List.Perm ps (l.map fun p => ((p.1 : Int), (p.2 : Int)))) (asc : ps.Pairwise fun a b => SrtO.lexB b a = false) : ps.map pairD = (rowsW w).map rowD := by
  have e : ps = (ps.map fun q => (q.1.toNat, q.2.toNat)).map fun p => ((p.1 : Int), (p.2 : Int)) := by
    rw [List.map_map]
    conv => lhs; rw [← List.map_id ps]
    refine List.map_congr_left fun q hq => ?_
    obtain ⟨x, _, rfl⟩ := List.mem_map.mp (pm.mem_iff.mp hq)
    rfl
  obtain ⟨A, hA⟩ : ∃ A, A = ps.map fun q => (q.1.toNat, q.2.toNat) := ⟨_, rfl⟩
  rw [← hA] at e
  have pA : List.Perm A l := by
    have := pm.map fun q : Int × Int => (q.1.toNat, q.2.toNat)
    rw [List.map_map, ← hA] at this
    rwa [show l.map ((fun q : Int × Int => (q.1.toNat, q.2.toNat)) ∘ fun p : Nat × Nat => ((p.1 : Int), (p.2 : Int))) = l from by
      conv => rhs; rw [← List.map_id l]
      rfl] at this
  have nA : (A.map (·.1)).Nodup := (pA.map (·.1)).nodup_iff.mpr hn
  have aA : A.Pairwise fun p q => p.1 < q.1 := by
    rw [e, List.pairwise_map] at asc
    rw [List.Nodup, List.pairwise_map] at nA
    refine (asc.and nA).imp fun {x y} h => ?_
    have := SrtO.lexB_no.mp h.1
    have := h.2
    dsimp only at *
    omega
  rw [e, rows_uni hn hp hb hB ho hw he pA aA, List.map_map]
  rfl
theorem upd_ln {E : DEnds} {x0 x1 x2 x4 : Option D} {p : Addr} {i m : Nat} {acc : List (Nat × Nat)} {G : GH} (hp : G p = some (.dct (kvT acc))) (hn : (acc.map (·.1)).Nodup) (hl : acc.length < sizeLine)
    (h : E.nx [x0, x1, x2, some (.ref p), x4, some (.int (i : Nat)), some (.int (m : Nat))] (updG G p (.dct (kvT (bmp acc (i + 1) m))))) :
    (dAsg (dOp rAdd (dGet2 (dVar 3) (dOp rAdd (dVar 5) (dC (.int 1))) (dC (.int 0))) (dVar 6)) (gSb (dVar 3) (dOp rAdd (dVar 5) (dC (.int 1))) sDct)) E [x0, x1, x2, some (.ref p), x4, some (.int (i : Nat)), some (.int (m : Nat))] G := by
  walk_at "ds"
  refine iGet2 ?_
  walk_at "ds"
  refine ⟨p, _, rfl, hp, ?_⟩
  walk_at "ds"
  refine ⟨_, _, hp, rfl, ?_⟩
  rw [show (i : Int) + 1 = ((i + 1 : Nat) : Int) from by omega, get_kvT]
  walk_at "ds"
  rw [show (i : Int) + 1 = ((i + 1 : Nat) : Int) from by omega, ← Int.natCast_add]
  exact set_kvT hp hn hl h
theorem law_lengths_rd {n : Nat} : ∀ ds G Q E, spLen (n + 1) ds G Q E → r_law_lengths (pSp (RX 56)) (spLen n) (pSp RA) { nx := fun _ G' => Q .non G', rt := Q } (startD 7 ds) G := by
  rintro ds G Q E ⟨v, a, rfl, W, hW, hF, hv, hm, ⟨vs, ha, vn, vr⟩, hq⟩
  have bv := hv.bd hW
  have ho := bv.o
  have tv := hv.td
  have hmv := bv.1.m
  unfold r_law_lengths
  walk_at "ds"
  refine repr_w bv.1.shw ?_
  walk_at "ds"
  obtain ⟨gi, gn⟩ := getK_K (t := v) (S := vs)
  refine dIn_i ha ?_
  by_cases hin : v ∈ vs
  · rw [gi hin, show (!(some (rowsD v)).isSome) = false from rfl]
    refine ifF ?_
    walk_at "ds"
    refine getK_i (gi hin) ?_
    exact hq G ⟨vs, ha, vn, vr⟩ fun b o _ h => h
  rw [gn hin, show (!(none : Option D).isSome) = true from rfl]
  refine ifT ?_
  have hz := bv.1.z
  have hdp := bv.1.dp
  have okL : okD (.lst ((nxW v).map sgD)) := by
    obtain ⟨k1, k2, k3, k4⟩ := bv.1.nxs
    exact okD_of (by rw [smD]; exact k1) (by rw [depD]; omega)
  have main : ∀ (G2 : GH) (pt : Addr) (acc0 : List (Nat × Nat)), (∀ c o, G c = some o → G2 c = some o) → G pt = none → G2 pt = some (.dct (kvT acc0)) → (acc0.map (·.1)).Nodup → (∀ x ∈ acc0, 1 ≤ x.2) → (∀ x ∈ acc0, x.1 ≤ mW v) → (∀ f, tot acc0 f + (sm (nxW v) fun s => ev (aft v s) fun k => f (k + 1)) = ev v f) →
      (dSeq (dFor (iSq (dCall (pSp (RX 56)) (dCons (dVar 0) dNil))) (gNm 4)
        (dFor (iSq (dCall (spLen n) (dCons (dCall (pSp RA) (dCons (dVar 0) (dCons (dVar 4) dNil))) (dCons (dVar 1) dNil)))) (gTp 2 (gsCons (gNm 5) (gsCons (gNm 6) gsNil)))
          (dAsg (dOp rAdd (dGet2 (dVar 3) (dOp rAdd (dVar 5) (dC (.int 1))) (dC (.int 0))) (dVar 6)) (gSb (dVar 3) (dOp rAdd (dVar 5) (dC (.int 1))) sDct))))
        (dAsg (dFrz (dSortI (dVar 3))) (gSb (dVar 1) (dVar 2) sDct))) { nx := dRet (dDGet (dVar 1) (dVar 2)) { nx := fun _ G' => Q .non G', rt := Q }, rt := Q }
        [some (toD v), some (.ref a), some (.str (shD (toD v))), some (.ref pt), none, none, none] G2 := by
    intro G2 pt acc0 g2 hpt e2 n1 n2 n3 n4
    have hap : a ≠ pt := fun z => by rw [← z, ha] at hpt; cases hpt
    walk_at "ds"
    refine ⟨.lst ((nxW v).map sgD), rx_at bv.1.o (by omega) (by omega), fun G3 g3 => ?_⟩
    walk_at "ds"
    refine dForGo_of (I := fun rest ρ G4 => ∃ ss acc x4 x5 x6, rest = ss.map sgD ∧ (∀ s ∈ ss, s ∈ nxW v) ∧ ρ = [some (toD v), some (.ref a), some (.str (shD (toD v))), some (.ref pt), x4, x5, x6] ∧ (∀ c o, c ≠ a → G c = some o → G4 c = some o) ∧ KnAt W G4 a ∧ G4 pt = some (.dct (kvT acc)) ∧
      (acc.map (·.1)).Nodup ∧ (∀ x ∈ acc, 1 ≤ x.2) ∧ (∀ x ∈ acc, x.1 ≤ mW v) ∧ ∀ f, tot acc f + (sm ss fun s => ev (aft v s) fun k => f (k + 1)) = ev v f) ?_ ?_ _ _ _ ?_
    · rintro ρ G4 ⟨ss, acc, x4, x5, x6, er, _, rfl, g4, ⟨us, ka, kn, kr⟩, e4, k1, k2, k3, k4⟩
      have : ss = [] := by cases ss with
        | nil => rfl
        | cons s ss => cases er
      subst this
      refine ⟨trivial, ?_⟩
      walk_at "ds"
      have len := bd_len k1 k2 k3
      refine ⟨pt, _, acc.map fun p => ((p.1 : Int), (p.2 : Int)), rfl, e4, nat_pairs acc, fun ps pl pm asc hpl => ?_⟩
      have hpl4 : a ≠ pl := fun z => by rw [← z, ka] at hpl; cases hpl
      have eR : ps.map pairD = (rowsW v).map rowD := sortI_row k1 k2 k3 (by omega) ho (by omega) (fun f => by have := k4 f; rw [sm_nil] at this; omega) pm asc
      refine frzR updG_same ?_
      rw [eR]
      walk_at "ds"
      have ka2 : dropG (updG G4 pl (.lst (ps.map pairD))) pl a = some (.dct (us.map kvK)) := by rw [dropG_ne hpl4, updG_ne hpl4]; exact ka
      rw [eR] at ka2
      show dctP _ (.ref a) _
      refine dctP_i ka2 ?_
      refine ⟨by rw [List.length_map]; exact Nat.lt_of_le_of_lt (few_w hF kn kr) (by decide), ?_⟩
      rw [show (D.lst ((rowsW v).map rowD)) = rowsD v from rfl, putK_K]
      obtain ⟨us2, hus⟩ : ∃ us2, us2 = if v ∈ us then us else us ++ [v] := ⟨_, rfl⟩
      rw [← hus]
      have hv2 : v ∈ us2 := by rw [hus]; split <;> simp_all
      have un : us2.Nodup := by
        rw [hus]; split
        · exact kn
        · rename_i z; exact nodup_snoc kn z
      have ur : ∀ u ∈ us2, RchW W u := by
        intro u hu
        rw [hus] at hu
        split at hu
        · exact kr u hu
        · rcases List.mem_append.mp hu with z | z
          · exact kr u z
          · rw [List.mem_singleton] at z; rw [z]; exact hv
      walk_at "ds"
      refine getK_i ((getK_K (t := v) (S := us2)).1 hv2) ?_
      refine hq _ ⟨us2, updG_same, un, ur⟩ fun c o hc h => ?_
      rw [updG_ne hc]
      have hcl : c ≠ pl := fun z => by
        have := g4 c o hc h
        rw [z] at this; rw [this] at hpl; cases hpl
      rw [dropG_ne hcl, updG_ne hcl]
      exact g4 c o hc h
    · rintro x rest ρ G4 ⟨ss, acc, x4, x5, x6, er, hss, rfl, g4, kn4, e4, k1, k2, k3, k4⟩ K hK
      cases ss with
      | nil => cases er
      | cons s ss =>
        injection er with er1 er2
        subst er1
        have hs := hss s (List.mem_cons_self ..)
        have hu := hv.go hs
        have bu := hu.bd hW
        have hmu := aft_m ho hs
        refine ⟨trivial, ?_⟩
        walk_at "ds"
        refine ⟨_, ⟨v, s, rfl, bv.1.o, by omega, by omega, hs, rfl⟩, fun G5 g5 => ?_⟩
        walk_at "ds"
        refine ⟨aft v s, a, rfl, W, hW, hF, hu, by omega, kn4.keep (g5 _), fun G6 kn6 g6 => ?_⟩
        walk_at "ds"
        have e6 : G6 pt = some (.dct (kvT acc)) := g6 _ _ (Ne.symm hap) (g5 _ _ e4)
        unfold rowsD
        walk_at "ds"
        refine dForGo_of (I := fun rest ρ G7 => ∃ rs acc x5 x6, rest = rs.map rowD ∧ (∀ r ∈ rs, r ∈ rowsW (aft v s)) ∧ ρ = [some (toD v), some (.ref a), some (.str (shD (toD v))), some (.ref pt), some (sgD s), x5, x6] ∧ (∀ c o, c ≠ a → G c = some o → G7 c = some o) ∧ KnAt W G7 a ∧ G7 pt = some (.dct (kvT acc)) ∧
          (acc.map (·.1)).Nodup ∧ (∀ x ∈ acc, 1 ≤ x.2) ∧ (∀ x ∈ acc, x.1 ≤ mW v) ∧ ∀ f, tot acc f + (tot rs fun k => f (k + 1)) + (sm ss fun s => ev (aft v s) fun k => f (k + 1)) = ev v f) ?_ ?_ _ _ _ ?_
        · rintro ρ G7 ⟨rs, acc, x5, x6, er, _, rfl, g7, kn7, e7, k1, k2, k3, k4⟩
          have : rs = [] := by cases rs with
            | nil => rfl
            | cons r rs => cases er
          subst this
          exact ⟨trivial, hK _ _ ⟨ss, acc, _, _, _, er2, fun t ht => hss t (List.mem_cons_of_mem _ ht), rfl, g7, kn7, e7, k1, k2, k3, fun f => by have := k4 f; rw [tot_nil] at this; omega⟩⟩
        · rintro y rest7 ρ G7 ⟨rs, acc, x5, x6, er, hrs, rfl, g7, kn7, e7, k1, k2, k3, k4⟩ K7 hK7
          cases rs with
          | nil => cases er
          | cons r rs =>
            injection er with er3 er4
            subst er3
            have hr := hrs r (List.mem_cons_self ..)
            obtain ⟨hb1, _⟩ := rows_bd bu.o hr
            have hb2 := (rows_mem.mp hr).2.2
            have len := bd_len k1 k2 k3
            refine ⟨trivial, ?_⟩
            unfold rowD
            walk_at "ds"
            refine upd_ln e7 k1 (Nat.lt_of_le_of_lt len (by exact Nat.lt_of_le_of_lt (m := 1891) (by omega) (by decide))) ?_
            refine hK7 _ _ ⟨rs, _, _, _, er4, fun q hq => hrs q (List.mem_cons_of_mem _ hq), rfl, fun c o hc h => ?_, kn7.keep fun o h => by rw [updG_ne hap]; exact h, updG_same, bmp_nd k1, fun x hx => ?_, fun x hx => ?_, fun f => ?_⟩
            · rw [updG_ne fun z => by rw [z, hpt] at h; cases h]; exact g7 c o hc h
            · rcases bmp_mem hx with z | z
              · exact Nat.le_trans hb2 z.2
              · exact k2 x z
            · rcases bmp_mem hx with z | z
              · rw [z.1]; omega
              · exact k3 x z
            · have := k4 f
              rw [tot_cons] at this
              rw [tot_bmp, ← this]
              omega
        · refine ⟨rowsW (aft v s), acc, _, _, rfl, fun _ h => h, rfl, fun c o hc h => g6 _ _ hc (g5 _ _ (g4 c o hc h)), kn6, e6, k1, k2, k3, fun f => ?_⟩
          have := k4 f
          rw [sm_cons] at this
          rw [rows_tot bu.o (by omega)]
          omega
    · exact ⟨nxW v, acc0, _, _, _, rfl, fun _ h => h, rfl, fun c o _ h => g3 _ _ (g2 c o h), ⟨vs, g3 _ _ (g2 _ _ ha), vn, vr⟩, g3 _ _ e2, n1, n2, n3, n4⟩
  walk_at "ds"
  refine ⟨.lst ((nxW v).map sgD), rx_at bv.1.o (by omega) (by omega), fun G1 g1 => ?_⟩
  walk_at "ds"
  refine ne_ll okL okNil ?_
  cases ov : isOver v with
  | true =>
    have e := over_of ov
    have en : nxW v = [] := nx_over ov
    rw [en, List.map_nil, show eqvD (.lst []) (.lst []) = true from by simp [eqvD, eqvDs]]
    refine ifF ?_
    walk_at "ds"
    refine iDisp fun p0 hp0 => ?_
    walk_at "ds"
    refine dispEnd updG_same rfl (by decide) ?_
    refine iGNm ?_
    rw [updG_updG]
    refine main _ p0 [(0, 1)] (fun c o h => ?_) (grow_none g1 hp0) updG_same (by simp) (fun x hx => ?_) (fun x hx => ?_) fun f => ?_
    · rw [updG_ne fun z => by rw [z, grow_none g1 hp0] at h; cases h]; exact g1 _ _ h
    · rw [List.mem_singleton] at hx; subst hx; exact Nat.le_refl _
    · rw [List.mem_singleton] at hx; subst hx; exact Nat.zero_le _
    · rw [en, sm_nil, tb1, e, ev_over]; rfl
  | false =>
    have ne := nx_some ho tv ov
    rw [show eqvD (.lst ((nxW v).map sgD)) (.lst []) = false from by
      cases h : nxW v with
      | nil => exact absurd h ne
      | cons s ss => simp [eqvD, eqvDs]]
    refine ifT ?_
    walk_at "ds"
    intro p0 hp0
    refine iGNm ?_
    refine main _ p0 [] (fun c o h => ?_) (grow_none g1 hp0) updG_same (by simp) (fun x hx => (by cases hx)) (fun x hx => (by cases hx)) fun f => ?_
    · rw [updG_ne fun z => by rw [z, grow_none g1 hp0] at h; cases h]; exact g1 _ _ h
    · rw [tot_nil, ev_step v ho tv ov f, Nat.zero_add]
      exact sm_congr fun s _ => ev_aft v s _
end K22
namespace K22
open PySem L2 Dl K17 K18 K24 K20 K28 K27 K23
local macro_rules | `(tactic| walk_at "ds") => `(tactic| repeat' with_reducible first
  | refine iVar (by with_unfolding_all rfl) ?_
  | refine iCons ?_
  | refine iNil ?_
  | refine iC ?_
  | refine iOp ?_
  | refine iSeq ?_
  | refine iAsg ?_
  | refine iGNm ?_
  | refine iTup ?_
  | refine iFrz ?_
  | refine iTst ?_
  | refine iRet ?_
  | refine iCall ?_
  | refine iLst ?_
  | refine iNewK ?_
  | refine iGTp (by with_unfolding_all rfl) ?_
  | refine iGsCons ?_
  | refine iGsNil ?_
  | refine lenOk (by with_unfolding_all rfl) ?_
  | refine frzEnd ?_
  | refine ifT ?_
  | refine ifF ?_
  | refine iCB ?_
  | refine rIx_i (by with_unfolding_all rfl) (by with_unfolding_all rfl) ?_
  | refine rIx_i (by with_unfolding_all rfl) atI_0 ?_
  | fail "stuck")
def spSho : DSp := fun ds G Q _ => ∃ w, ds = [toD w] ∧ Bd w ∧ Few 600 w ∧ mW w < 163 ∧ ∀ G', Grow G G' → Q (runD (shW w)) G'
theorem enum_at (l : List D) : ∀ k, (enumD l).drop k = (List.range' k (l.length - k)).map fun i => D.tup [.int (i : Nat), l.getD i .non] := by
  intro k
  unfold enumD
  rw [← List.map_drop, List.range_eq_range', List.drop_range']
  congr 2
  omega
theorem law_shortest_rd : ∀ ds G Q E, spSho ds G Q E → r_law_shortest (pSp (RX 56)) (pSp RA) (spLen 163) (pSp (RT 60)) { nx := fun _ G' => Q .non G', rt := Q } (startD 7 ds) G := by
  rintro ds G Q E ⟨w, rfl, hW, hF, hmw, hq⟩
  unfold r_law_shortest
  have hz := hW.z
  have hdp := hW.dp
  walk_at "ds"
  refine ⟨_, rt_at hW.o (by omega) (by omega), fun G1 g1 => ?_⟩
  walk_at "ds"
  intro a ha
  walk_at "ds"
  have ha0 : G a = none := grow_none g1 ha
  refine dWhile_of (I := fun n ρ G2 => ∃ u done x4 x5 x6, ρ = [some (toD w), some (toD u), some (.ref a), some (runD done), x4, x5, x6] ∧ RchW w u ∧ shW w = done ++ shW u ∧ (mW u ≤ n ∧ mW u ≤ mW w) ∧ KnAt w G2 a ∧ ∀ c o, c ≠ a → G c = some o → G2 c = some o) ?_ 163 _ _ ?_
  · rintro n ρ G2 ⟨u, done, x4, x5, x6, rfl, hu, hs, ⟨hn, hnw⟩, kn, g2⟩ K hK
    have bu := hu.bd hW
    have ho := bu.o
    have hzu := bu.1.z
    have hdu := bu.1.dp
    have hmu := bu.1.m
    have okL : okD (.lst ((nxW u).map sgD)) := by
      obtain ⟨k1, k2, k3, k4⟩ := bu.1.nxs
      exact okD_of (by rw [smD]; exact k1) (by rw [depD]; omega)
    have hlen : (shW w).length ≤ 1890 := by have := sh_len w hW.ok; have := hW.m; omega
    have hdone : done.length + (shW u).length ≤ 1890 := by rw [hs, List.length_append] at hlen; exact hlen
    walk_at "ds"
    refine ⟨.lst ((nxW u).map sgD), rx_at bu.1.o (by omega) (by omega), fun G3 g3 => ?_⟩
    walk_at "ds"
    refine ne_ll okL okNil ?_
    cases ov : isOver u with
    | true =>
      have e := over_of ov
      have en : nxW u = [] := nx_over ov
      rw [en, List.map_nil, show eqvD (.lst []) (.lst []) = true from by simp [eqvD, eqvDs]]
      refine ifF ?_
      walk_at "ds"
      rw [e, sh_over, List.append_nil] at hs
      rw [← hs]
      refine hq _ fun c o h => ?_
      have hca : c ≠ a := fun z => by rw [z, ha0] at h; cases h
      exact g3 _ _ (g2 c o hca h)
    | false =>
      have ne := nx_some ho hu.td ov
      obtain ⟨k, s, gr1, gr2, gr3⟩ := gr_of u ho hu.td ov
      rw [show eqvD (.lst ((nxW u).map sgD)) (.lst []) = false from by
        cases h : nxW u with
        | nil => exact absurd h ne
        | cons s ss => simp [eqvD, eqvDs]]
      refine ifT ?_
      walk_at "ds"
      refine iLc ?_
      unfold iEnL
      walk_at "ds"
      refine ⟨.lst ((nxW u).map sgD), rx_at bu.1.o (by omega) (by omega), fun G4 g4 => ?_⟩
      dsimp only
      intro pl hpl
      have kn4 : KnAt w G4 a := (kn.keep (g3 _)).keep (g4 _)
      have hapl : a ≠ pl := fun z => by obtain ⟨vs, e, _⟩ := kn4; rw [z, hpl] at e; cases e
      have hnl := bu.1.nxs.2.2.2
      refine dLcGo_of (I := fun rest acc G5 => ∃ j, j ≤ (nxW u).length ∧ rest = (enumD ((nxW u).map sgD)).drop j ∧ acc = ((List.range j).map fun i => (((slW u ((nxW u).getD i .tick) : Nat) : Int), (i : Int))).map pairD ∧ (∀ c o, c ≠ a → G c = some o → G5 c = some o) ∧ KnAt w G5 a ∧ G5 pl = some (.lst acc)) ?_ ?_ _ [] _ ⟨0, Nat.zero_le _, rfl, rfl, fun c o h1 h2 => ?_, kn4.keep fun o h => by rw [updG_ne hapl]; exact h, updG_same⟩
      · rintro acc G5 ⟨j, hj, er, rfl, g5, kn5, e5⟩
        have hjl : j = (nxW u).length := by
          have := congrArg List.length er
          rw [enum_at, List.length_map, List.length_range', List.length_map, List.length_nil] at this
          omega
        refine ⟨trivial, frzR e5 ?_⟩
        have kn6 : KnAt w (dropG G5 pl) a := kn5.keep fun o h => by rw [dropG_ne hapl]; exact h
        have hpl0 : G pl = none := by
          cases z : G pl with
          | none => rfl
          | some o => rw [g4 _ _ (g3 _ _ (g2 pl o (Ne.symm hapl) z))] at hpl; cases hpl
        have g6 : ∀ c o, c ≠ a → G c = some o → dropG G5 pl c = some o := fun c o h1 h2 => by
          rw [dropG_ne fun z => by rw [z, hpl0] at h2; cases h2]; exact g5 c o h1 h2
        walk_at "ds"
        refine ⟨.lst ((nxW u).map sgD), rx_at bu.1.o (by omega) (by omega), fun G7 g7 => ?_⟩
        walk_at "ds"
        have hk : k < (nxW u).length := (List.getElem?_eq_some_iff.mp gr1).1
        refine minP_i (by rw [hjl]; intro z; have := congrArg List.length z; rw [List.length_map, List.length_range, List.length_nil] at this; omega) fun p hp hmin => ?_
        have ep : p = (((slW u s : Nat) : Int), (k : Int)) := by
          obtain ⟨i, hi, rfl⟩ := List.mem_map.mp hp
          rw [List.mem_range, hjl] at hi
          have h1 := hmin (((slW u s : Nat) : Int), (k : Int)) (List.mem_map.mpr ⟨k, List.mem_range.mpr (by omega), by
            rw [show (nxW u).getD k .tick = s from by simp [List.getD, gr1]]⟩)
          rw [SrtO.lexB_no] at h1
          have ei : (nxW u)[i]? = some ((nxW u).getD i .tick) := by
            rw [List.getD_eq_getElem?_getD, List.getElem?_eq_getElem hi]; rfl
          have h2 := gr3 i _ ei
          dsimp only at h1
          have : i = k := by omega
          subst this
          rw [show (nxW u).getD i .tick = s from by simp [List.getD, gr1]]
        subst ep
        unfold pairD
        walk_at "ds"
        refine rIx_i rfl (atI_nat (i := k) (x := sgD s) (by rw [List.getElem?_map, gr1]; rfl)) ?_
        have hsn : s ∈ nxW u := List.mem_of_getElem? gr1
        walk_at "ds"
        unfold runD
        walk_at "ds"
        refine add_tt (by rw [List.length_map, List.length_singleton]; exact Nat.le_trans (m := 1891) (by omega) (by decide)) ?_
        walk_at "ds"
        refine ⟨_, ⟨u, s, rfl, bu.1.o, by omega, by omega, hsn, rfl⟩, fun G8 g8 => ?_⟩
        walk_at "ds"
        have hmu2 := aft_m ho hsn
        obtain ⟨m, hm⟩ : ∃ m, n = m + 1 := ⟨n - 1, by omega⟩
        have er : D.tup (List.map sgD done ++ [sgD s]) = runD (done ++ [s]) := by
          unfold runD
          rw [List.map_append]
          rfl
        rw [er]
        refine hK m hm.symm _ _ ⟨aft u s, done ++ [s], _, _, _, rfl, hu.go hsn, ?_, ⟨by omega, by omega⟩, (kn6.keep (g7 _)).keep (g8 _), fun c o h1 h2 => g8 _ _ (g7 _ _ (g6 c o h1 h2))⟩
        · rw [hs, gr2, sh_aft, List.append_assoc]; rfl
      · rintro x xs acc G5 ⟨j, hj, er, rfl, g5, kn5, e5⟩
        have hjl : j < (nxW u).length := by
          have := congrArg List.length er
          rw [enum_at, List.length_map, List.length_range', List.length_map, List.length_cons] at this
          omega
        rw [List.drop_eq_getElem_cons (by unfold enumD; rw [List.length_map, List.length_range, List.length_map]; exact hjl)] at er
        injection er with er1 er2
        have ex : x = D.tup [.int (j : Nat), sgD ((nxW u).getD j .tick)] := by
          rw [er1]
          unfold enumD
          rw [List.getElem_map, List.getElem_range]
          congr 3
          rw [List.getD_eq_getElem?_getD, List.getElem?_map, List.getElem?_eq_getElem hjl, List.getD_eq_getElem?_getD, List.getElem?_eq_getElem hjl]
          rfl
        subst ex
        obtain ⟨t, ht⟩ : ∃ t, t = (nxW u).getD j .tick := ⟨_, rfl⟩
        have htn : t ∈ nxW u := by
          rw [ht, List.getD_eq_getElem?_getD, List.getElem?_eq_getElem hjl]; exact List.getElem_mem hjl
        rw [← ht]
        refine ⟨trivial, _, rfl, fun K5 hK5 => ?_⟩
        have but := (hu.go htn).bd hW
        have hmt := aft_m ho htn
        have hmuw : mW u ≤ 163 := by omega
        walk_at "ds"
        refine ⟨_, ⟨u, t, rfl, bu.1.o, by omega, by omega, htn, rfl⟩, fun G6 g6 => ?_⟩
        walk_at "ds"
        refine ⟨aft u t, a, rfl, w, hW, hF, hu.go htn, by omega, kn5.keep (g6 _), fun G7 kn7 g7 => ?_⟩
        obtain ⟨v0, r0, er0⟩ := rows_first but.o (by omega)
        unfold rowsD
        rw [er0, List.map_cons]
        walk_at "ds"
        refine hK5 _ G7 (g7 _ _ (Ne.symm hapl) (g6 _ _ e5)) (by rw [List.length_map, List.length_map, List.length_range]; exact Nat.lt_of_le_of_lt (m := 4000) (by omega) (by decide)) ⟨j + 1, hjl, er2, ?_, fun c o h1 h2 => ?_, kn7.keep fun o h => by rw [updG_ne hapl]; exact h, updG_same⟩
        · rw [List.range_succ, List.map_append, List.map_append, List.map_cons, List.map_nil, ← ht, sh_aft]; rfl
        · rw [updG_ne fun z => by
            rw [z] at h1 h2
            rw [g4 _ _ (g3 _ _ (g2 pl o h1 h2))] at hpl; cases hpl]
          exact g7 _ _ h1 (g6 _ _ (g5 c o h1 h2))
      · have := g4 _ _ (g3 _ _ (g2 c o h1 h2))
        rw [updG_ne fun z => by rw [z, hpl] at this; cases this]; exact this
  · refine ⟨tidyW w, [], _, _, _, rfl, RchW.beg w, by rw [sh_tidy]; rfl, ?_, ⟨[], updG_same, by simp, fun v hv => (by cases hv)⟩, fun c o h1 h2 => ?_⟩
    · have := tidy_m w; exact ⟨by omega, by omega⟩
    · rw [updG_ne h1]; exact g1 _ _ h2
end K22
namespace K22
open PySem L2 Dl K17 K18 K24 K20 K28 K27 K23
local macro_rules | `(tactic| walk_at "ds") => `(tactic| repeat' with_reducible first
  | refine iVar (by with_unfolding_all rfl) ?_
  | refine iCons ?_
  | refine iNil ?_
  | refine iC ?_
  | refine iOp ?_
  | refine iSeq ?_
  | refine iAsg ?_
  | refine iGNm ?_
  | refine iFrz ?_
  | refine iRet ?_
  | refine iCall ?_
  | refine iLst ?_
  | refine iNewK ?_
  | refine iPar ?_
  | refine lenOk (by with_unfolding_all rfl) ?_
  | refine frzEnd ?_
  | refine iTru ?_
  | refine truB ?_
  | refine iAndVK ?_
  | refine andVT ?_
  | refine iIf ?_
  | refine ifT ?_
  | refine ifF ?_
  | refine iCB ?_
  | refine iISq ?_
  | refine rIx_i (by with_unfolding_all rfl) (by with_unfolding_all rfl) ?_
  | refine rIx_i (by with_unfolding_all rfl) atI_0 ?_
  | refine eq_strT ?_
  | refine tupC_l ?_
  | fail "stuck")
def LL : Nat → Nat
  | 0 => 4
  | n + 1 => 3 * LL n + 4
def XX : Nat → Nat
  | 0 => 2
  | n + 1 => 4 * XX n + 2 * LL n + 3
theorem LL_lo : ∀ n, 4 ≤ LL n
  | 0 => Nat.le_refl _
  | n + 1 => by rw [LL]; omega
theorem XX_lo : ∀ n, 2 ≤ XX n
  | 0 => Nat.le_refl _
  | n + 1 => by rw [XX]; omega
def JL (n : Nat) (w : Wk) : Prop := JobOk n w ∧ mW w ≤ LL n ∧ xW w ≤ XX n
theorem mWs_all {ws : List Wk} {M : Nat} (h : ∀ w ∈ ws, mW w ≤ M) : mWs ws ≤ ws.length * M := by
  induction ws with
  | nil => simp [mWs]
  | cons w ws ih =>
    have h1 := h w (by simp)
    have h2 := ih fun x hx => h x (by simp [hx])
    rw [mWs, List.length_cons, Nat.succ_mul]; omega
theorem xEs_all {ws : List Wk} {M : Nat} (h : ∀ w ∈ ws, xW w ≤ M) : xE ws ≤ ws.length * (M + 1) ∧ xR ws ≤ ws.length * M := by
  induction ws with
  | nil => simp [xE, xR]
  | cons w ws ih =>
    have h1 := h w (by simp)
    have h2 := ih fun x hx => h x (by simp [hx])
    rw [xE, xR, List.length_cons, Nat.succ_mul, Nat.succ_mul]; omega
theorem jl_cl : KJ.JobCl JL where
  tick := fun {n m} h1 h2 => ⟨.tick h1 (by omega), by have := LL_lo n; rw [mW]; omega, by rw [xW]; omega⟩
  sme := fun {n a b t} h1 h2 h3 => ⟨.sme h1 h2 (by omega), by have := LL_lo n; rw [mW]; omega, by have := XX_lo n; rw [xW]; omega⟩
  lop := fun {n a b t w} h1 h2 h3 ⟨j, g, x⟩ => by
    have e1 : b.toNat * (mW w + 1) ≤ 3 * (LL n + 1) := Nat.mul_le_mul (by omega) (by omega)
    have e2 : (b.toNat + 1) * xW w ≤ 4 * XX n := Nat.mul_le_mul (by omega) x
    exact ⟨.lop h1 h2 h3 j, by rw [mW, LL]; omega, by rw [xW, XX]; omega⟩
  row := fun {n ws} h hl => by
    have e1 := mWs_all fun w hw => (h w hw).2.1
    have e2 := (xEs_all fun w hw => (h w hw).2.2).2
    have e3 : ws.length * LL n ≤ 3 * LL n := Nat.mul_le_mul_right _ hl
    have e4 : ws.length * XX n ≤ 3 * XX n := Nat.mul_le_mul_right _ hl
    exact ⟨.row (fun w hw => (h w hw).1) hl, by rw [mW, LL]; omega, by rw [xW, XX]; omega⟩
  eit := fun {n ws} h hl h0 => by
    have e1 := mWs_all fun w hw => (h w hw).2.1
    have e2 := (xEs_all fun w hw => (h w hw).2.2).1
    have e3 : ws.length * LL n ≤ 3 * LL n := Nat.mul_le_mul_right _ hl
    have e4 : ws.length * (XX n + 1) ≤ 3 * (XX n + 1) := Nat.mul_le_mul_right _ hl
    exact ⟨.eit (fun w hw => (h w hw).1) hl h0, by rw [mW, LL]; omega, by rw [xW, XX]; omega⟩
  bes := fun {n a b} ⟨j, g, x⟩ ⟨j2, g2, x2⟩ => ⟨.bes j j2, by rw [mW, LL]; omega, by rw [xW, XX]; omega⟩
structure Gd (w : Wk) : Prop where
  b : Bd w
  f : Few 600 w
  m : mW w < 163
  x : xW w ≤ 600
theorem Gd.ok {w : Wk} (h : Gd w) : Ok22 w := ⟨h.b.ok, h.b.z, by have := h.x; omega, by have := h.b.dp; omega⟩
def spSJ22 : DSp := fun ds G Q _ => ∃ a b, ds = [.ref a, .int 3, .ref b] ∧ a ≠ b ∧ FeedOk G a ∧ SpareOk G b ∧ ∀ w G', Gd w → FeedOk G' a → KeepY a b G G' → Q (toD w) G'
theorem gd_of {w : Wk} (g : Good w) (h1 : (mW w).ble 162 = true) (h2 : (xW w).ble 600 = true) : Gd w := ⟨g.1, g.2, by have := Nat.le_of_ble_eq_true h1; omega, Nat.le_of_ble_eq_true h2⟩
theorem gd_rnd (t : Bool) : Gd (wRnd t) := by cases t <;> exact gd_of (good_rnd _) (by decide +kernel) (by decide +kernel)
theorem law_small_job_rd : ∀ ds G Q E, spSJ22 ds G Q E → r_law_small_job spSm (pSp (RC (.tup [toD (wRnd false), toD (wRnd true)]))) spDraw (KJ.spJob JL 4) { nx := fun _ G' => Q .non G', rt := Q } (startD 4 ds) G := by
  rintro ds G Q E ⟨a, b, rfl, hab, hf, hs, hq⟩
  unfold r_law_small_job
  walk_at "ds"
  refine ⟨a, b, 3, rfl, hab, by decide, by decide, hf, hs, fun w G1 jw f1 s1 k1 => ?_⟩
  have hb : Bd w := JobOk.bd jw.1
  walk_at "ds"
  refine ⟨w, rfl, hb, fun c G2 hc g2 => ?_⟩
  walk_at "ds"
  have f2 := f1.grow g2
  have k2 : KeepY a b G G2 := fun c o n1 n2 e => g2 _ _ (k1 c o n1 n2 e)
  cases c with
  | true =>
    walk_at "ds"
    refine hq w _ ⟨hb, few_le (hc rfl) (by decide), ?_, ?_⟩ f2 k2
    · have := jw.2.1
      have e : LL (3 : Int).toNat = 160 := by decide
      rw [e] at this; omega
    · have := jw.2.2
      have e : XX (3 : Int).toNat = 551 := by decide
      rw [e] at this; omega
  | false =>
    walk_at "ds"
    refine ⟨_, ⟨rfl, rfl⟩, fun G3 g3 => ?_⟩
    walk_at "ds"
    refine ⟨a, 2, rfl, by decide, by decide, f2.grow g3, fun r G4 r0 r1 f4 k4 => ?_⟩
    have k4' : KeepY a b G G4 := (fun c o n1 n2 e => k4 _ _ n1 (g3 _ _ (k2 c o n1 n2 e)))
    have rr : r = 0 ∨ r = 1 := by omega
    rcases rr with rfl | rfl
    · walk_at "ds"; exact hq _ _ (gd_rnd false) f4 k4'
    · walk_at "ds"; exact hq _ _ (gd_rnd true) f4 k4'
theorem num_ev {w : Wk} (ho : okW 12 w) (hm : mW w < 2000) : numW w = ((ev w fun _ => 1 : Nat) : Int) := by
  rw [← rows_tot ho hm]
  unfold numW
  have key : ∀ l : List (Nat × Nat), (l.map fun p => (p.2 : Int)).sum = ((tot l fun _ => 1 : Nat) : Int) := by
    intro l
    induction l with
    | nil => rfl
    | cons p l ih => rw [List.map_cons, List.sum_cons, ih, tot_cons]; omega
  exact key _
structure Bg (i : Int) : Prop where
  h : i.natAbs < 2 ^ 601
theorem Bg.few {i : Int} (h : Bg i) : fewD (.int i) = true := by
  rw [fewD, decide_eq_true_eq]
  have := PySem.Flt.log2_lt_of (show 0 < 601 by decide) h.h
  omega
theorem Bg.ln {i : Int} (h : Bg i) : K23.ln (.int i) ≤ 602 := by
  have e := int_text_length_le10 (a := i) (k := 601) (by decide) (Nat.lt_of_lt_of_le h.h (Nat.pow_le_pow_left (by decide) 601))
  rw [← len_ln]
  show (Str.ofString (toString i)).length ≤ 602
  rw [ofString_length]; exact e
theorem bg_of {x n : Nat} (h : x ≤ 2 ^ n) (hn : n ≤ 600) : Bg (x : Int) := ⟨by
  have : ((x : Nat) : Int).natAbs = x := rfl
  rw [this]
  exact Nat.lt_of_le_of_lt h (Nat.pow_lt_pow_right (by decide) (by omega))⟩
theorem bg_small {x : Nat} (h : x ≤ 4000) : Bg (x : Int) := bg_of (n := 12) (by have : (2 : Nat) ^ 12 = 4096 := by decide
                                                                                omega) (by decide)
def dueD (w : Wk) : D := .lst [.tup ((rowsW w).map rowD), .int (numW w), runD (shW w)]
theorem row_facts {w : Wk} (h : Gd w) : ∀ d ∈ (rowsW w).map rowD, pureD d = true ∧ fewD d = true ∧ depD d ≤ 1 ∧ ln d ≤ 1220 := by
  intro d hd
  obtain ⟨p, hp, rfl⟩ := List.mem_map.mp hd
  obtain ⟨h1, h2⟩ := rows_bd h.b.ok hp
  have b1 : Bg (p.1 : Int) := bg_small (by have := h.m; omega)
  have b2 : Bg (p.2 : Int) := bg_of h2 h.x
  refine ⟨by simp [rowD, pureD, pureDs], ?_, by simp [rowD, depD, depDs], ?_⟩
  · rw [rowD, fewD, fewDs, fewDs, fewDs, b1.few, b2.few]; rfl
  · have l1 := ln_tup [.int (p.1 : Nat), .int (p.2 : Nat)]
    have l2 := b1.ln
    have l3 := b2.ln
    simp only [lns] at l1
    unfold rowD
    omega
theorem ln_sm {d : D} (h : smD d = true) (k : depD d ≤ 64) (z : wtD d ≤ 2 ^ 20) : ln d ≤ 16 * wtD d + 100 := by
  have e := sm_weight d h
  have h3 : (pyD d).canLay0 = true := lay_py d (sm_pure d h)
  have := PyData.shown_le 13 (by decide) (pyD d) (PyData.leavesShort_of_canLay0 13 _ h3 (sm_short d h))
  rw [← len_ln]
  unfold shD
  omega
theorem run_facts {w : Wk} (h : Gd w) : smD (runD (shW w)) = true ∧ depD (runD (shW w)) ≤ 40 ∧ ln (runD (shW w)) ≤ 600000 := by
  have p := sh_path w (shW w) h.b.ok (sh_sh w h.b.ok)
  have t := p.th2 h.b.tidy
  have th := p.thr h.b.tidy
  have hl : (shW w).length ≤ 162 := by have := sh_len w h.b.ok; have := h.m; omega
  have hw : wtDs ((shW w).map sgD) ≤ ((shW w).map sgD).length * (200 + 1) := wtDs_le fun d hd => by
    obtain ⟨s, hs, rfl⟩ := List.mem_map.mp hd
    exact (t s hs).2.2
  rw [List.length_map] at hw
  have e2 : wtD (runD (shW w)) ≤ 33000 := by
    unfold runD
    rw [wtD]
    have : (shW w).length * (200 + 1) ≤ 162 * (200 + 1) := Nat.mul_le_mul_right _ hl
    omega
  refine ⟨th.sm, th.dp, ?_⟩
  have := ln_sm th.sm (by have := th.dp; omega) (Nat.le_trans e2 (by decide))
  omega
theorem due_shw {w : Wk} (h : Gd w) : ShwA (.lst [dueD w, dueD w]) := by
  have rf := row_facts h
  obtain ⟨r1, r2, r3⟩ := run_facts h
  have bn : Bg (numW w) := by
    rw [num_ev h.b.ok (by have := h.m; omega)]
    exact bg_of (ev_num w h.b.ok) h.x
  have p1 : pureDs ((rowsW w).map rowD) = true := pureDs_iff.mpr fun d hd => (rf d hd).1
  have p2 : fewDs ((rowsW w).map rowD) = true := by
    have gen : ∀ l : List D, (∀ d ∈ l, fewD d = true) → fewDs l = true := by
      intro l
      induction l with
      | nil => intro _; rw [fewDs]
      | cons d l ih => intro h; rw [fewDs, h d (List.mem_cons_self ..), ih fun e he => h e (List.mem_cons_of_mem _ he)]; rfl
    exact gen _ fun d hd => (rf d hd).2.1
  have p3 : depDs ((rowsW w).map rowD) ≤ 1 := depDs_le fun d hd => (rf d hd).2.2.1
  have p4 : lns ((rowsW w).map rowD) ≤ ((rowsW w).map rowD).length * (1220 + 2) := lns_le fun d hd => (rf d hd).2.2.2
  have hl := rows_len w h.b.ok (m := 162) (by have := h.m; omega)
  rw [List.length_map] at p4
  have p5 : (rowsW w).length * (1220 + 2) ≤ 163 * (1220 + 2) := Nat.mul_le_mul_right _ hl
  refine ⟨⟨?_, ?_⟩, ?_, ?_⟩
  · simp only [dueD, pureD, pureDs, p1, sm_pure _ r1, Bool.and_true]
  · simp only [dueD, depD, depDs] at r2 ⊢
    omega
  · simp only [dueD, fewD, fewDs, p2, sm_few _ r1, Bool.and_true]
    have := bn.few
    rw [fewD] at this
    simpa using this
  · rw [len_ln]
    have l1 := ln_lst [dueD w, dueD w]
    have l2 := ln_lst [.tup ((rowsW w).map rowD), .int (numW w), runD (shW w)]
    have l3 := ln_tup ((rowsW w).map rowD)
    have l4 := bn.ln
    simp only [lns] at l1 l2
    have l5 : ln (dueD w) ≤ 900000 := by unfold dueD; omega
    rw [sizeL]; omega
def spAg22 : DSp := fun ds G Q _ => ∃ w, ds = [toD w] ∧ Gd w ∧ ∀ G', Grow G G' → Q (.bl true) G'
theorem law_agrees_rd : ∀ ds G Q E, spAg22 ds G Q E → r_law_agrees (pSp (RSh 30)) spHm spLn spSho (spLen 163) (pSp (RT 60)) { nx := fun _ G' => Q .non G', rt := Q } (startD 8 ds) G := by
  rintro ds G Q E ⟨w, rfl, hw, hq⟩
  unfold r_law_agrees
  have hz := hw.b.z
  have hdp := hw.b.dp
  walk_at "ds"
  refine repr_a hw.b.shw.a ?_
  walk_at "ds"
  refine ⟨_, rt_at hw.b.o (by omega) (by omega), fun G1 g1 => ?_⟩
  walk_at "ds"
  intro a ha
  walk_at "ds"
  have ha0 := grow_none g1 ha
  refine ⟨tidyW w, a, rfl, w, hw.b, hw.f, RchW.beg w, ?_, ⟨[], updG_same, by simp, fun v hv => (by cases hv)⟩, fun G2 kn2 g2 => ?_⟩
  · have := tidy_m w; have := hw.m; omega
  have g02 : Grow G G2 := fun c o h => by
    have hc : c ≠ a := fun z => by rw [z, ha0] at h; cases h
    exact g2 c o hc (by rw [updG_ne hc]; exact g1 _ _ h)
  unfold rowsD
  rw [rows_tidy]
  walk_at "ds"
  have hlr : (rowsW w).length ≤ 163 := rows_len w hw.b.ok (m := 162) (by have := hw.m; omega)
  refine lcF (rowsW w) rowD (fun p => D.int (p.2 : Nat)) ?_ (Nat.le_trans hlr (by decide)) ?_ ?_
  · intro P hP
    walk_at "ds"
    exact hP _ _ (fun _ => trivial) (Grow.refl _)
  · intro p hp
    refine ⟨_, rfl, fun G3 K hK => ?_⟩
    walk_at "ds"
    exact hK _ (Grow.refl _)
  intro G3 g3
  rw [show (rowsW w).map (fun p => D.int (p.2 : Nat)) = ((rowsW w).map fun p => (p.2 : Int)).map D.int from by rw [List.map_map]; rfl]
  walk_at "ds"
  refine K24.sum_i ?_
  rw [show ((rowsW w).map fun p => (p.2 : Int)).sum = numW w from rfl]
  walk_at "ds"
  refine ⟨w, rfl, hw.b, hw.f, hw.m, fun G4 g4 => ?_⟩
  walk_at "ds"
  refine ⟨w, rfl, hw.ok, fun G5 g5 => ?_⟩
  walk_at "ds"
  refine ⟨w, rfl, hw.ok, fun G6 g6 => ?_⟩
  walk_at "ds"
  refine ⟨_, ⟨w, rfl, hw.b.ok, hz, by omega, rfl⟩, fun G7 g7 => ?_⟩
  walk_at "ds"
  refine ⟨w, rfl, hw.ok, fun G8 g8 => ?_⟩
  walk_at "ds"
  refine ⟨w, rfl, hw.ok, fun G9 g9 => ?_⟩
  walk_at "ds"
  refine ⟨_, ⟨w, rfl, hw.b.ok, hz, by omega, rfl⟩, fun G10 g10 => ?_⟩
  walk_at "ds"
  have sh := due_shw hw
  unfold dueD at sh
  refine repr_a sh ?_
  walk_at "ds"
  refine repr_a sh ?_
  walk_at "ds"
  refine repr_a hw.b.shw.a ?_
  walk_at "ds"
  exact hq _ ((((((((g02.trans g3).trans g4).trans g5).trans g6).trans g7).trans g8).trans g9).trans g10)
end K22
namespace K22
open PySem L2 Dl K17 K18 K24 K20 K28 K27 K23
local macro_rules | `(tactic| walk_at "ds") => `(tactic| repeat' with_reducible first
  | refine iVar (by with_unfolding_all rfl) ?_
  | refine iCons ?_
  | refine iNil ?_
  | refine iC ?_
  | refine iOp ?_
  | refine iSeq ?_
  | refine iAsg ?_
  | refine iGNm ?_
  | refine iTup ?_
  | refine iFrz ?_
  | refine iTst ?_
  | refine iIfS ?_
  | refine iRet ?_
  | refine iCall ?_
  | refine iLst ?_
  | refine iNext ?_
  | refine lstP_i (by assumption) ?_
  | refine lstP_i updG_same ?_
  | refine iDrop ?_
  | refine lenOk (by with_unfolding_all rfl) ?_
  | refine frzEnd ?_
  | refine lstC_t ?_
  | refine iTru ?_
  | refine truB ?_
  | refine iOr ?_
  | refine iNot ?_
  | refine ifF ?_
  | refine iCB ?_
  | refine iMt ?_
  | refine iFor ?_
  | refine iISq ?_
  | refine eq_ii ?_
  | refine ne_ii ?_
  | refine iIRg1 ?_
  | refine add_llb (by with_unfolding_all rfl) ?_
  | refine add_ttb (by with_unfolding_all rfl) ?_
  | refine ifNT ?_
  | refine ifNDT (by with_reducible_and_instances first | omega | (simp only [List.length_cons, List.length_nil]; omega)) ?_
  | fail "stuck")
def jobs22 : List Wk := [.row [], .eit [.tick 2, .row [], .tick 1], .lop 0 3 true (.sme 0 2 false), .eit [.tick 1, .sme 0 2 false]] ++ ([wRnd false, wRnd true] ++ [wB1, wB2, wB3, wB4]) ++ [wSides] ++ [wG1, wG2, wG3]
theorem gd_hand {n : Nat} {w : Wk} (h1 : okW 12 w) (h2 : (zW w).ble 270 = true) (h3 : (pW w).ble 16 = true) (h4 : (dpW w).ble 14 = true) (h5 : (srch n [(0, tidyW w)] [(0, tidyW w)]).2.isEmpty = true) (h6 : (allB n w).length ≤ 600) (h7 : (mW w).ble 162 = true) (h8 : (xW w).ble 600 = true) : Gd w :=
  gd_of (good_by (bd_dec h1 h2 h3 h4).1 h5 h6) h7 h8
theorem gd22 : ∀ w ∈ jobs22, Gd w := by
  intro w hw
  simp only [jobs22, List.cons_append, List.nil_append, List.append_assoc, List.mem_cons, List.not_mem_nil, or_false] at hw
  rcases hw with rfl | rfl | rfl | rfl | rfl | rfl | rfl | rfl | rfl | rfl | rfl | rfl | rfl | rfl
  · exact gd_hand (n := 5) (by simp [okW, okWs]) (by decide) (by decide) (by decide) (by decide +kernel) (by decide +kernel) (by decide) (by decide)
  · exact gd_hand (n := 40) (by simp [okW, okWs]) (by decide) (by decide) (by decide) (by decide +kernel) (by decide +kernel) (by decide) (by decide)
  · exact gd_hand (n := 100) (by simp [okW, okWs]) (by decide) (by decide) (by decide) (by decide +kernel) (by decide +kernel) (by decide) (by decide)
  · exact gd_hand (n := 60) (by simp [okW, okWs]) (by decide) (by decide) (by decide) (by decide +kernel) (by decide +kernel) (by decide) (by decide)
  · exact gd_rnd false
  · exact gd_rnd true
  · exact gd_hand (n := 60) (by simp [wB1, okW, okWs]) (by decide) (by decide) (by decide) (by decide +kernel) (by decide +kernel) (by decide) (by decide)
  · exact gd_hand (n := 100) (by simp [wB2, okW, okWs]) (by decide) (by decide) (by decide) (by decide +kernel) (by decide +kernel) (by decide) (by decide)
  · exact gd_hand (n := 100) (by simp [wB3, okW, okWs]) (by decide) (by decide) (by decide) (by decide +kernel) (by decide +kernel) (by decide) (by decide)
  · exact gd_hand (n := 100) (by simp [wB4, okW, okWs]) (by decide) (by decide) (by decide) (by decide +kernel) (by decide +kernel) (by decide) (by decide)
  · exact gd_of good_sides (by decide +kernel) (by decide +kernel)
  · exact gd_of (good_great _ (by simp)) (by decide +kernel) (by decide +kernel)
  · exact gd_of (good_great _ (by simp)) (by decide +kernel) (by decide +kernel)
  · exact gd_of (good_great _ (by simp)) (by decide +kernel) (by decide +kernel)
theorem rows_over : rowsW (.row []) = [(0, 1)] := by
  refine (rows_uni (w := .row []) (l := [(0, 1)]) (A := [(0, 1)]) (B := 0) (by simp) (fun x hx => ?_) (fun x hx => ?_) (by decide) (by simp [okW, okWs]) (by decide) (fun f => by rw [tb1, ev_over]) (List.Perm.refl _) (by simp)).symm
  · rw [List.mem_singleton] at hx; subst hx; exact Nat.le_refl _
  · rw [List.mem_singleton] at hx; subst hx; exact Nat.le_refl _
theorem num_sides : numW wSides = 5 := by
  rw [num_ev (by simp [wSides, okW]) (by decide)]
  have : (ev wSides fun _ => 1) = 5 := by decide +kernel
  rw [this]; rfl
theorem ok_over : Ok22 (.row []) := (gd22 _ (by simp [jobs22])).ok
theorem ok_sides : Ok22 wSides := (gd22 _ (by simp [jobs22])).ok
theorem law_rd : ∀ ds G Q E, spLaw ds G Q E → r_law spAg22 spSJ22 spDraw (pSp (RC (.tup [toD (wRnd false), toD (wRnd true)]))) (pSp (RC (.tup [toD wB1, toD wB2, toD wB3, toD wB4]))) (pSp (RC (toD wSides))) (pSp (RC (.tup [toD wG1, toD wG2, toD wG3]))) (pSp (RSh 30)) spHm spLn spFeed
    { nx := fun _ G' => Q .non G', rt := Q } (startD 6 ds) G := by
  rintro ds G Q E ⟨ns, rfl, hq⟩
  unfold r_law
  walk_at "ds"
  refine ⟨ns, rfl, fun a G1 g1 f1 ha => ?_⟩
  walk_at "ds"
  refine ⟨.row [], by simp [toD, toDs], ok_over, fun G2 g2 => ?_⟩
  rw [rows_over]
  walk_at "ds"
  refine ne_i (okD_of (by decide) (by decide)) (okD_of (by decide) (by decide)) ?_
  rw [show (!eqvD (D.tup ([(0, 1)].map rowD)) (D.tup [D.tup [D.int 0, D.int 1]])) = false from by decide +kernel]
  walk_at "ds"
  refine ⟨_, ⟨rfl, rfl⟩, fun G3 g3 => ?_⟩
  walk_at "ds"
  refine ⟨wSides, rfl, ok_sides, fun G4 g4 => ?_⟩
  rw [num_sides]
  walk_at "ds"
  refine ⟨_, ⟨.row [], by simp [toD, toDs], ok_over.ok, ok_over.z, ok_over.d, rfl⟩, fun G5 g5 => ?_⟩
  rw [sh_over]
  walk_at "ds"
  refine ne_i (okD_of (by decide) (by decide)) (okD_of (by decide) (by decide)) ?_
  rw [show (!eqvD (runD []) (D.tup [])) = false from by decide +kernel]
  walk_at "ds"
  have f5 := ((((f1.grow g2).grow g3).grow g4).grow g5)
  intro p hp
  have hap : a ≠ p := by rintro rfl; obtain ⟨_, _, _, _, e⟩ := f5; rw [hp] at e; cases e
  walk_at "ds"
  refine app_i updG_same (by decide) ?_
  rw [updG_updG]
  walk_at "ds"
  refine ⟨_, ⟨rfl, rfl⟩, fun G6 g6 => ?_⟩
  walk_at "ds"
  refine ⟨_, ⟨rfl, rfl⟩, fun G7 g7 => ?_⟩
  walk_at "ds"
  refine add_rl (g7 _ _ (g6 _ _ updG_same)) (by decide) ?_
  walk_at "ds"
  refine ⟨_, ⟨rfl, rfl⟩, fun G8 g8 => ?_⟩
  walk_at "ds"
  refine ⟨_, ⟨rfl, rfl⟩, fun G9 g9 => ?_⟩
  walk_at "ds"
  have f9 := ((((f5.keepU hap).grow g6).grow g7).grow g8).grow g9
  refine forL toD jobs22 (J := fun ρ G => ∃ (x2 x3 x4 x5 : Option D), ρ = [some (.scr ns), some (.ref a), x2, x3, x4, x5] ∧ FeedOk G a) ?_ ?_ _ _ ⟨_, _, _, _, rfl, f9⟩
  · rintro ρ G10 ⟨x2, x3, x4, x5, rfl, f10⟩
    walk_at "ds"
    refine ⟨by decide, by decide, ?_⟩
    rw [rngD_map]
    refine forL _ _ (J := fun ρ G => ∃ (x2 x3 x4 x5 : Option D), ρ = [some (.scr ns), some (.ref a), x2, x3, x4, x5] ∧ FeedOk G a) ?_ ?_ _ _ ⟨_, _, _, _, rfl, f10⟩
    · rintro ρ G11 ⟨x2, x3, x4, x5, rfl, f11⟩
      walk_at "ds"
      exact hq _
    · rintro i hi ρ G11 ⟨x2, x3, x4, x5, rfl, f11⟩ K hK
      walk_at "ds"
      refine ⟨a, 2, rfl, by decide, by decide, f11, fun r G12 r0 r1 f12 k12 => ?_⟩
      walk_at "ds"
      intro b hb
      have hab : a ≠ b := by rintro rfl; obtain ⟨_, _, _, _, e⟩ := f12; rw [hb] at e; cases e
      walk_at "ds"
      refine ⟨a, b, rfl, hab, f12.keepU hab, ⟨6, _, updG_same⟩, fun w G16 hw f16 k16 => ?_⟩
      walk_at "ds"
      refine ⟨w, rfl, hw, fun G17 g17 => ?_⟩
      walk_at "ds"
      exact hK _ _ ⟨_, _, _, _, rfl, f16.grow g17⟩
  · rintro w hw ρ G10 ⟨x2, x3, x4, x5, rfl, f10⟩ K hK
    walk_at "ds"
    refine ⟨w, rfl, gd22 w hw, fun G15 g15 => ?_⟩
    walk_at "ds"
    exact hK _ _ ⟨_, _, _, _, rfl, f10.grow g15⟩
theorem noRSh0 (ds : List D) (G : GH) (Q : DK) (E : DXK) : ¬ pSp (RSh 0) ds G Q E := fun ⟨_, ⟨w, _, _, _, h, _⟩, _⟩ => by cases w <;> simp only [dpW] at h <;> omega
theorem noJobL0 (ds : List D) (G : GH) (Q : DK) (E : DXK) : ¬ KJ.spJob JL 0 ds G Q E := fun ⟨_, _, _, _, _, h0, h1, _⟩ => by omega
end K22
namespace K22
open PySem L2 Dl
structure Tx (K : PySem.W.Frag) (mg : Str → Option Value) : Prop where
  m_enumerate : mg "enumerate" = none
  m_int : mg "int" = none
  m_isinstance : mg "isinstance" = none
  m_len : mg "len" = none
  m_list : mg "list" = none
  m_max : mg "max" = none
  m_min : mg "min" = none
  m_range : mg "range" = none
  m_repr : mg "repr" = none
  m_sorted : mg "sorted" = none
  m_sum : mg "sum" = none
  m_tuple : mg "tuple" = none
  c_TICK : ∃ u, mg "TICK" = some u ∧ ∃ v, RelV v u ∧ ∀ G H, RepV K G H (.str "tick") v
  c_MORE : ∃ u, mg "MORE" = some u ∧ ∃ v, RelV v u ∧ ∀ G H, RepV K G H (.str "more") v
  c_END : ∃ u, mg "END" = some u ∧ ∃ v, RelV v u ∧ ∀ G H, RepV K G H (.str "end") v
theorem hu70_of {A : Around} {k : Nat} (hr : Room k A) : A.units + 70 < cLine := by have := hr.un; omega
abbrev N_choices_among : List Str := ["n", "k", "found", "i"]
abbrev P_choices_among : List Str := ["n", "k"]
open PyProof.Rows (envOfC)
section
variable {P : Program} {w : World} {K : PySem.W.Frag} {mg : Str → Option Value} {base : Heap} {k : Nat} {f : Addr} {fd : FuncData} {sp : DSp}
theorem sc_choices_among : FnScope N_choices_among P_choices_among (defScope s_choices_among) := ⟨rfl, rfl, rfl, by decide +kernel, rfl, by decide +kernel, by decide +kernel⟩
theorem b_choices_among (T : Tx K mg)    (cdv : Value) (A : Around) (out : List Env) (st : Shared) (H : Hp) (E : XK)
    (hr : Room k (A.deeper (envOfC "choices_among" (defScope s_choices_among) st.heap.objs.size f cdv))) (hgd : (A.deeper (envOfC "choices_among" (defScope s_choices_among) st.heap.objs.size f cdv)).guards = some []) :
    DSs (cxOf CX0 P w K mg base N_choices_among "choices_among" (defScope s_choices_among) f cdv A out st H E).nox (defBody s_choices_among) (r_choices_among) := by
  have SC := sc_choices_among
  have hu := hu_of hr
  have hu64 := hr.units
  have hu70 := hu70_of hr
  exact (ds_cons (ds_set (i := 2) SC.nd rfl (by first | exact Or.inl rfl | exact Or.inr rfl) de_int)
  (ds_cons (ds_for PassesOwn.never rfl (di_range1 rfl T.m_range (da_cons (dv 1) da_nil)) (dg_name (i := 3) SC.nd rfl (by first | exact Or.inl rfl | exact Or.inr rfl))
  (ds_one (ds_set (i := 2) SC.nd rfl (by first | exact Or.inl rfl | exact Or.inr rfl) (de_op o_fdivW (de_op o_mulW (dv 2) (de_op o_sub (dv 0) (dv 3))) (de_op o_add (dv 3) de_int)))))
  (ds_one (ds_ret (dv 2)))))
theorem k_choices_among (T : Tx K mg)
    (F : FunD K "choices_among" "choices_among" (defArgs s_choices_among) (defBody s_choices_among) (defScope s_choices_among) [] [] f fd) (hm : mg "choices_among" = some (.ref f)) (len : ∀ ds G Q E, sp ds G Q E → ds.length = 2)
    (ok : ∀ ds G Q E, sp ds G Q E → (r_choices_among) { nx := fun _ G' => Q .non G', rt := Q } (startD 4 ds) G) : Callee P w K mg base (k + 1) "choices_among" P_choices_among sp :=
  callee_of F hm (dfn_of F sc_choices_among len (b_choices_among T) ok) (fun _ _ _ _ _ _ us hl => match us, hl with | [_, _], _ => rfl) (fun _ _ _ _ _ _ us hl => match us, hl with | [_, _], _ => rfl)
abbrev N_joined : List Str := ["one", "other", "are_woven", "found", "a", "many", "b", "more", "ways"]
abbrev P_joined : List Str := ["one", "other", "are_woven"]
theorem sc_joined : FnScope N_joined P_joined (defScope s_joined) := ⟨rfl, rfl, rfl, by decide +kernel, rfl, by decide +kernel, by decide +kernel⟩
theorem b_joined (T : Tx K mg) {sp_choices_among : DSp} (C_choices_among : Callee P w K mg base k "choices_among" P_choices_among sp_choices_among)  (cdv : Value) (A : Around) (out : List Env) (st : Shared) (H : Hp) (E : XK)
    (hr : Room k (A.deeper (envOfC "joined" (defScope s_joined) st.heap.objs.size f cdv))) (hgd : (A.deeper (envOfC "joined" (defScope s_joined) st.heap.objs.size f cdv)).guards = some []) :
    DSs (cxOf CX0 P w K mg base N_joined "joined" (defScope s_joined) f cdv A out st H E).nox (defBody s_joined) (r_joined sp_choices_among) := by
  have SC := sc_joined
  have hu := hu_of hr
  have hu64 := hr.units
  have hu70 := hu70_of hr
  exact (ds_cons (ds_set (i := 3) SC.nd rfl (by first | exact Or.inl rfl | exact Or.inr rfl) de_newK)
  (ds_cons (ds_forI (i := 0) PassesOwn.never rfl rfl (by first | exact Or.inl rfl | exact Or.inr (Or.inl rfl) | exact Or.inr (Or.inr rfl)) (dg_tup rfl (dgs_cons (dg_name (i := 4) SC.nd rfl (by first | exact Or.inl rfl | exact Or.inr rfl)) (dgs_cons (dg_name (i := 5) SC.nd rfl (by first | exact Or.inl rfl | exact Or.inr rfl)) dgs_nil)))
  (ds_one (ds_forI (i := 1) PassesOwn.never rfl rfl (by first | exact Or.inl rfl | exact Or.inr (Or.inl rfl) | exact Or.inr (Or.inr rfl)) (dg_tup rfl (dgs_cons (dg_name (i := 6) SC.nd rfl (by first | exact Or.inl rfl | exact Or.inr rfl)) (dgs_cons (dg_name (i := 7) SC.nd rfl (by first | exact Or.inl rfl | exact Or.inr rfl)) dgs_nil)))
  (ds_cons (ds_set (i := 8) SC.nd rfl (by first | exact Or.inl rfl | exact Or.inr rfl) (de_if (dt_tru (dv 2)) (dc C_choices_among hr hgd rfl (da_cons (de_op o_add (dv 4) (dv 6)) (da_cons (dv 4) da_nil))) de_int))
  (ds_one (ds_asg (de_op o_add (de_get2 hu (dv 3) (de_op o_add (dv 4) (dv 6)) de_int) (de_op o_mulW (de_op o_mulW (dv 5) (dv 7)) (dv 8))) (dg_sub (dv 3) (de_op o_add (dv 4) (dv 6)) (set_dct hu))))))))
  (ds_one (ds_ret (dv 3)))))
theorem d_joined (T : Tx K mg) {sp_choices_among : DSp} (C_choices_among : Callee P w K mg base k "choices_among" P_choices_among sp_choices_among)
    (F : FunD K "joined" "joined" (defArgs s_joined) (defBody s_joined) (defScope s_joined) [.bl false] [] f fd) (len : ∀ ds G Q E, sp ds G Q E → ds.length = 3)
    (ok : ∀ ds G Q E, sp ds G Q E → (r_joined sp_choices_among) { nx := fun _ G' => Q .non G', rt := Q } (startD 9 ds) G) : DFn P w K mg base (k + 1) f fd P_joined sp :=
  dfn_of F sc_joined len (b_joined T C_choices_among) ok
abbrev N_added : List Str := ["tables", "found", "table", "n", "many"]
abbrev P_added : List Str := ["tables"]
theorem sc_added : FnScope N_added P_added (defScope s_added) := ⟨rfl, rfl, rfl, by decide +kernel, rfl, by decide +kernel, by decide +kernel⟩
theorem b_added (T : Tx K mg)    (cdv : Value) (A : Around) (out : List Env) (st : Shared) (H : Hp) (E : XK)
    (hr : Room k (A.deeper (envOfC "added" (defScope s_added) st.heap.objs.size f cdv))) (hgd : (A.deeper (envOfC "added" (defScope s_added) st.heap.objs.size f cdv)).guards = some []) :
    DSs (cxOf CX0 P w K mg base N_added "added" (defScope s_added) f cdv A out st H E).nox (defBody s_added) (r_added) := by
  have SC := sc_added
  have hu := hu_of hr
  have hu64 := hr.units
  have hu70 := hu70_of hr
  exact (ds_cons (ds_set (i := 1) SC.nd rfl (by first | exact Or.inl rfl | exact Or.inr rfl) de_newK)
  (ds_cons (ds_for PassesOwn.never rfl (di_seq (dv 0)) (dg_name (i := 2) SC.nd rfl (by first | exact Or.inl rfl | exact Or.inr rfl))
  (ds_one (ds_forI (i := 2) PassesOwn.never rfl rfl (by first | exact Or.inl rfl | exact Or.inr (Or.inl rfl) | exact Or.inr (Or.inr rfl)) (dg_tup rfl (dgs_cons (dg_name (i := 3) SC.nd rfl (by first | exact Or.inl rfl | exact Or.inr rfl)) (dgs_cons (dg_name (i := 4) SC.nd rfl (by first | exact Or.inl rfl | exact Or.inr rfl)) dgs_nil)))
  (ds_one (ds_asg (de_op o_add (de_get2 hu (dv 1) (dv 3) de_int) (dv 4)) (dg_sub (dv 1) (dv 3) (set_dct hu)))))))
  (ds_one (ds_ret (dv 1)))))
theorem k_added (T : Tx K mg)
    (F : FunD K "added" "added" (defArgs s_added) (defBody s_added) (defScope s_added) [] [] f fd) (hm : mg "added" = some (.ref f)) (len : ∀ ds G Q E, sp ds G Q E → ds.length = 1)
    (ok : ∀ ds G Q E, sp ds G Q E → (r_added) { nx := fun _ G' => Q .non G', rt := Q } (startD 5 ds) G) : Callee P w K mg base (k + 1) "added" P_added sp :=
  callee_of F hm (dfn_of F sc_added len (b_added T) ok) (fun _ _ _ _ _ _ us hl => match us, hl with | [_], _ => rfl) (fun _ _ _ _ _ _ us hl => match us, hl with | [_], _ => rfl)
abbrev N_longer : List Str := ["table", "more", "n", "many"]
abbrev P_longer : List Str := ["table", "more"]
theorem sc_longer : FnScope N_longer P_longer (defScope s_longer) := ⟨rfl, rfl, rfl, by decide +kernel, rfl, by decide +kernel, by decide +kernel⟩
theorem b_longer (T : Tx K mg)    (cdv : Value) (A : Around) (out : List Env) (st : Shared) (H : Hp) (E : XK)
    (hr : Room k (A.deeper (envOfC "longer" (defScope s_longer) st.heap.objs.size f cdv))) (hgd : (A.deeper (envOfC "longer" (defScope s_longer) st.heap.objs.size f cdv)).guards = some []) :
    DSs (cxOf CX0 P w K mg base N_longer "longer" (defScope s_longer) f cdv A out st H E).nox (defBody s_longer) (r_longer) := by
  have SC := sc_longer
  have hu := hu_of hr
  have hu64 := hr.units
  have hu70 := hu70_of hr
  exact (ds_one (ds_ret (de_dcI (i := 0) (own := [("n", 2), ("many", 3)]) (ct := (.tup [2, 3])) rfl SC.nd rfl (by first | exact Or.inl rfl | exact Or.inr (Or.inl rfl) | exact Or.inr (Or.inr rfl)) (blkOk_by (by show blkC N_longer (defScope s_longer) _ _ = true; decide +kernel)) (by decide) (fun _ _ _ _ _ => pg_tup rfl (pgs_cons (pg_name (i := 2) SC.nd rfl (Or.inl rfl)) (pgs_cons (pg_name (i := 3) SC.nd rfl (Or.inl rfl)) pgs_nil))) (fun _ _ _ _ _ => dts_nil) (fun _ _ _ _ _ => (de_op o_add (dv 2) (dv 1))) (fun _ _ _ _ _ => (dv 3)))))
theorem k_longer (T : Tx K mg)
    (F : FunD K "longer" "longer" (defArgs s_longer) (defBody s_longer) (defScope s_longer) [] [] f fd) (hm : mg "longer" = some (.ref f)) (len : ∀ ds G Q E, sp ds G Q E → ds.length = 2)
    (ok : ∀ ds G Q E, sp ds G Q E → (r_longer) { nx := fun _ G' => Q .non G', rt := Q } (startD 4 ds) G) : Callee P w K mg base (k + 1) "longer" P_longer sp :=
  callee_of F hm (dfn_of F sc_longer len (b_longer T) ok) (fun _ _ _ _ _ _ us hl => match us, hl with | [_, _], _ => rfl) (fun _ _ _ _ _ _ us hl => match us, hl with | [_, _], _ => rfl)
abbrev N_round_tables : List Str := ["least", "most", "table", "found", "here", "k"]
abbrev P_round_tables : List Str := ["least", "most", "table"]
theorem sc_round_tables : FnScope N_round_tables P_round_tables (defScope s_round_tables) := ⟨rfl, rfl, rfl, by decide +kernel, rfl, by decide +kernel, by decide +kernel⟩
theorem b_round_tables (T : Tx K mg) {sp_joined : DSp}  (G_joined_2 : CalleeG P w K mg base k "joined" 2 [] [(0, 0), (0, 1), (1, 0)] [.bl false] sp_joined) (cdv : Value) (A : Around) (out : List Env) (st : Shared) (H : Hp) (E : XK)
    (hr : Room k (A.deeper (envOfC "round_tables" (defScope s_round_tables) st.heap.objs.size f cdv))) (hgd : (A.deeper (envOfC "round_tables" (defScope s_round_tables) st.heap.objs.size f cdv)).guards = some []) :
    DSs (cxOf CX0 P w K mg base N_round_tables "round_tables" (defScope s_round_tables) f cdv A out st H E).nox (defBody s_round_tables) (r_round_tables sp_joined) := by
  have SC := sc_round_tables
  have hu := hu_of hr
  have hu64 := hr.units
  have hu70 := hu70_of hr
  exact (ds_cons (ds_set (i := 3) SC.nd rfl (by first | exact Or.inl rfl | exact Or.inr rfl) (de_lst da_nil))
  (ds_cons (ds_set (i := 4) SC.nd rfl (by first | exact Or.inl rfl | exact Or.inr rfl) (de_disp (dps_cons de_int de_int dps_nil)))
  (ds_cons (ds_for PassesOwn.never rfl (di_range1 rfl T.m_range (da_cons (de_op o_add (dv 1) de_int) da_nil)) (dg_name (i := 5) SC.nd rfl (by first | exact Or.inl rfl | exact Or.inr rfl))
  (ds_cons (ds_if (dt_cmp o_ge (dv 5) (dv 0) (nomark _))
  (ds_one (ds_expr (de_append (dv 3) (dv 4))))
  ds_nil)
  (ds_one (ds_set (i := 4) SC.nd rfl (by first | exact Or.inl rfl | exact Or.inr rfl) (dcg G_joined_2 hr hgd rfl (da_cons (dv 4) (da_cons (dv 2) da_nil)) dk_nil)))))
  (ds_one (ds_ret (de_frz (dv 3)))))))
theorem k_round_tables (T : Tx K mg) {sp_joined : DSp}  (G_joined_2 : CalleeG P w K mg base k "joined" 2 [] [(0, 0), (0, 1), (1, 0)] [.bl false] sp_joined)
    (F : FunD K "round_tables" "round_tables" (defArgs s_round_tables) (defBody s_round_tables) (defScope s_round_tables) [] [] f fd) (hm : mg "round_tables" = some (.ref f)) (len : ∀ ds G Q E, sp ds G Q E → ds.length = 3)
    (ok : ∀ ds G Q E, sp ds G Q E → (r_round_tables sp_joined) { nx := fun _ G' => Q .non G', rt := Q } (startD 6 ds) G) : Callee P w K mg base (k + 1) "round_tables" P_round_tables sp :=
  callee_of F hm (dfn_of F sc_round_tables len (b_round_tables T G_joined_2) ok) (fun _ _ _ _ _ _ us hl => match us, hl with | [_, _, _], _ => rfl) (fun _ _ _ _ _ _ us hl => match us, hl with | [_, _, _], _ => rfl)
abbrev N_length_table : List Str := ["work", "n", "body", "part", "found"]
abbrev P_length_table : List Str := ["work"]
theorem sc_length_table : FnScope N_length_table P_length_table (defScope s_length_table) := ⟨rfl, rfl, rfl, by decide +kernel, rfl, by decide +kernel, by decide +kernel⟩
theorem b_length_table (T : Tx K mg) {sp_joined : DSp} {sp_length_table : DSp} {sp_longer : DSp} {sp_added : DSp} {sp_round_tables : DSp} (C_length_table : Callee P w K mg base k "length_table" P_length_table sp_length_table) (C_longer : Callee P w K mg base k "longer" P_longer sp_longer) (C_added : Callee P w K mg base k "added" P_added sp_added) (C_round_tables : Callee P w K mg base k "round_tables" P_round_tables sp_round_tables) (G_joined_2 : CalleeG P w K mg base k "joined" 2 [] [(0, 0), (0, 1), (1, 0)] [.bl false] sp_joined) (G_joined_3 : CalleeG P w K mg base k "joined" 3 [] [(0, 0), (0, 1), (0, 2)] [.bl false] sp_joined) (cdv : Value) (A : Around) (out : List Env) (st : Shared) (H : Hp) (E : XK)
    (hr : Room k (A.deeper (envOfC "length_table" (defScope s_length_table) st.heap.objs.size f cdv))) (hgd : (A.deeper (envOfC "length_table" (defScope s_length_table) st.heap.objs.size f cdv)).guards = some []) :
    DSs (cxOf CX0 P w K mg base N_length_table "length_table" (defScope s_length_table) f cdv A out st H E).nox (defBody s_length_table) (r_length_table sp_joined sp_length_table sp_longer sp_added sp_round_tables) := by
  have SC := sc_length_table
  have hu := hu_of hr
  have hu64 := hr.units
  have hu70 := hu70_of hr
  exact (ds_one (ds_match (de_ix (dv 0) de_int) (dms_val (ds_one (ds_ret (de_disp (dps_cons (de_ix (dv 0) de_int) de_int dps_nil))))
  (dms_val (ds_one (ds_ret (de_dc (own := [("n", 1)]) (ct := (.one 1)) rfl SC.nd (di_range2 rfl T.m_range (da_cons (de_ix (dv 0) de_int) (da_cons (de_op o_add (de_ix (dv 0) de_int) de_int) da_nil))) (blkOk_by (by show blkC N_length_table (defScope s_length_table) _ _ = true; decide +kernel)) (by decide) (fun _ _ _ _ _ => pg_name (i := 1) SC.nd rfl (Or.inl rfl)) (fun _ _ _ _ _ => dts_nil) (fun _ _ _ _ _ => (de_op o_add (dv 1) de_int)) (fun _ _ _ _ _ => de_int))))
  (dms_val (ds_cons (ds_set (i := 2) SC.nd rfl (by first | exact Or.inl rfl | exact Or.inr rfl) (dc C_length_table hr hgd rfl (da_cons (de_ix (dv 0) de_int) da_nil)))
  (ds_one (ds_ret (dc C_longer hr hgd rfl (da_cons (dc C_added hr hgd rfl (da_cons (dc C_round_tables hr hgd rfl (da_cons (de_ix (dv 0) de_int) (da_cons (de_ix (dv 0) de_int) (da_cons (de_if (dt_tru (de_ix (dv 0) de_int)) (dv 2) (dc C_longer hr hgd rfl (da_cons (dv 2) (da_cons de_int da_nil)))) da_nil)))) da_nil)) (da_cons de_int da_nil))))))
  (dms_val (ds_one (ds_ret (dc C_longer hr hgd rfl (da_cons (dc C_added hr hgd rfl (da_cons (de_frz (de_lc (own := [("part", 3)]) (ct := (.one 3)) rfl SC.nd (di_seq (de_ix (dv 0) de_int)) (blkOk_by (by show blkC N_length_table (defScope s_length_table) _ _ = true; decide +kernel)) (by decide) (fun _ _ _ _ _ => pg_name (i := 3) SC.nd rfl (Or.inl rfl)) (fun _ _ _ _ _ => dts_nil) (fun _ _ _ _ _ => (dc C_length_table hr hgd rfl (da_cons (dv 3) da_nil))))) da_nil)) (da_cons de_int da_nil)))))
  (dms_val (ds_one (ds_ret (dcg G_joined_3 hr hgd rfl (da_cons (dc C_length_table hr hgd rfl (da_cons (de_ix (dv 0) de_int) da_nil)) (da_cons (dc C_length_table hr hgd rfl (da_cons (de_ix (dv 0) de_int) da_nil)) (da_cons de_bl da_nil))) dk_nil)))
  (dms_any (ds_cons (ds_set (i := 4) SC.nd rfl (by first | exact Or.inl rfl | exact Or.inr rfl) (de_disp (dps_cons de_int de_int dps_nil)))
  (ds_cons (ds_for PassesOwn.never rfl (di_seq (de_ix (dv 0) de_int)) (dg_name (i := 3) SC.nd rfl (by first | exact Or.inl rfl | exact Or.inr rfl))
  (ds_one (ds_set (i := 4) SC.nd rfl (by first | exact Or.inl rfl | exact Or.inr rfl) (dcg G_joined_2 hr hgd rfl (da_cons (dv 4) (da_cons (dc C_length_table hr hgd rfl (da_cons (dv 3) da_nil)) da_nil)) dk_nil))))
  (ds_one (ds_ret (dv 4)))))))))))))
theorem k_length_table (T : Tx K mg) {sp_joined : DSp} {sp_length_table : DSp} {sp_longer : DSp} {sp_added : DSp} {sp_round_tables : DSp} (C_length_table : Callee P w K mg base k "length_table" P_length_table sp_length_table) (C_longer : Callee P w K mg base k "longer" P_longer sp_longer) (C_added : Callee P w K mg base k "added" P_added sp_added) (C_round_tables : Callee P w K mg base k "round_tables" P_round_tables sp_round_tables) (G_joined_2 : CalleeG P w K mg base k "joined" 2 [] [(0, 0), (0, 1), (1, 0)] [.bl false] sp_joined) (G_joined_3 : CalleeG P w K mg base k "joined" 3 [] [(0, 0), (0, 1), (0, 2)] [.bl false] sp_joined)
    (F : FunD K "length_table" "length_table" (defArgs s_length_table) (defBody s_length_table) (defScope s_length_table) [] [] f fd) (hm : mg "length_table" = some (.ref f)) (len : ∀ ds G Q E, sp ds G Q E → ds.length = 1)
    (ok : ∀ ds G Q E, sp ds G Q E → (r_length_table sp_joined sp_length_table sp_longer sp_added sp_round_tables) { nx := fun _ G' => Q .non G', rt := Q } (startD 5 ds) G) : Callee P w K mg base (k + 1) "length_table" P_length_table sp :=
  callee_of F hm (dfn_of F sc_length_table len (b_length_table T C_length_table C_longer C_added C_round_tables G_joined_2 G_joined_3) ok) (fun _ _ _ _ _ _ us hl => match us, hl with | [_], _ => rfl) (fun _ _ _ _ _ _ us hl => match us, hl with | [_], _ => rfl)
theorem z_length_table {P : Program} {w : World} {K : PySem.W.Frag} {mg : Str → Option Value} {base : Heap} {f : Addr} {fd : FuncData} {sp : DSp} (F : FunD K "length_table" "length_table" (defArgs s_length_table) (defBody s_length_table) (defScope s_length_table) [] [] f fd) (hm : mg "length_table" = some (.ref f)) (h : ∀ ds G Q E, ¬ sp ds G Q E) : Callee P w K mg base 0 "length_table" P_length_table sp :=
  callee0 F hm h (fun _ _ _ _ _ _ us hl => match us, hl with | [_], _ => rfl) (fun _ _ _ _ _ _ us hl => match us, hl with | [_], _ => rfl)
abbrev N_lengths_of : List Str := ["work", "table", "n"]
abbrev P_lengths_of : List Str := ["work"]
theorem sc_lengths_of : FnScope N_lengths_of P_lengths_of (defScope s_lengths_of) := ⟨rfl, rfl, rfl, by decide +kernel, rfl, by decide +kernel, by decide +kernel⟩
theorem b_lengths_of (T : Tx K mg) {sp_length_table : DSp} (C_length_table : Callee P w K mg base k "length_table" P_length_table sp_length_table)  (cdv : Value) (A : Around) (out : List Env) (st : Shared) (H : Hp) (E : XK)
    (hr : Room k (A.deeper (envOfC "lengths_of" (defScope s_lengths_of) st.heap.objs.size f cdv))) (hgd : (A.deeper (envOfC "lengths_of" (defScope s_lengths_of) st.heap.objs.size f cdv)).guards = some []) :
    DSs (cxOf CX0 P w K mg base N_lengths_of "lengths_of" (defScope s_lengths_of) f cdv A out st H E).nox (defBody s_lengths_of) (r_lengths_of sp_length_table) := by
  have SC := sc_lengths_of
  have hu := hu_of hr
  have hu64 := hr.units
  have hu70 := hu70_of hr
  exact (ds_cons (ds_set (i := 1) SC.nd rfl (by first | exact Or.inl rfl | exact Or.inr rfl) (dc C_length_table hr hgd rfl (da_cons (dv 0) da_nil)))
  (ds_one (ds_ret (de_callTy c_tuple rfl T.m_tuple (by decide +kernel) (da_cons (de_frz (de_lc (own := [("n", 2)]) (ct := (.one 2)) rfl SC.nd (di_seq (de_frz (de_callB (c_sortK rfl) rfl T.m_sorted (by decide +kernel) (da_cons (dv 1) da_nil)))) (blkOk_by (by show blkC N_lengths_of (defScope s_lengths_of) _ _ = true; decide +kernel)) (by decide) (fun _ _ _ _ _ => pg_name (i := 2) SC.nd rfl (Or.inl rfl)) (fun _ _ _ _ _ => dts_nil) (fun _ _ _ _ _ => (de_tup (da_cons (dv 2) (da_cons (de_dget hu (dv 1) (dv 2)) da_nil)))))) da_nil)))))
theorem k_lengths_of (T : Tx K mg) {sp_length_table : DSp} (C_length_table : Callee P w K mg base k "length_table" P_length_table sp_length_table)
    (F : FunD K "lengths_of" "lengths_of" (defArgs s_lengths_of) (defBody s_lengths_of) (defScope s_lengths_of) [] [] f fd) (hm : mg "lengths_of" = some (.ref f)) (len : ∀ ds G Q E, sp ds G Q E → ds.length = 1)
    (ok : ∀ ds G Q E, sp ds G Q E → (r_lengths_of sp_length_table) { nx := fun _ G' => Q .non G', rt := Q } (startD 3 ds) G) : Callee P w K mg base (k + 1) "lengths_of" P_lengths_of sp :=
  callee_of F hm (dfn_of F sc_lengths_of len (b_lengths_of T C_length_table) ok) (fun _ _ _ _ _ _ us hl => match us, hl with | [_], _ => rfl) (fun _ _ _ _ _ _ us hl => match us, hl with | [_], _ => rfl)
abbrev N_how_many_runs : List Str := ["work", "n", "many"]
abbrev P_how_many_runs : List Str := ["work"]
theorem sc_how_many_runs : FnScope N_how_many_runs P_how_many_runs (defScope s_how_many_runs) := ⟨rfl, rfl, rfl, by decide +kernel, rfl, by decide +kernel, by decide +kernel⟩
theorem b_how_many_runs (T : Tx K mg) {sp_lengths_of : DSp} (C_lengths_of : Callee P w K mg base k "lengths_of" P_lengths_of sp_lengths_of)  (cdv : Value) (A : Around) (out : List Env) (st : Shared) (H : Hp) (E : XK)
    (hr : Room k (A.deeper (envOfC "how_many_runs" (defScope s_how_many_runs) st.heap.objs.size f cdv))) (hgd : (A.deeper (envOfC "how_many_runs" (defScope s_how_many_runs) st.heap.objs.size f cdv)).guards = some []) :
    DSs (cxOf CX0 P w K mg base N_how_many_runs "how_many_runs" (defScope s_how_many_runs) f cdv A out st H E).nox (defBody s_how_many_runs) (r_how_many_runs sp_lengths_of) := by
  have SC := sc_how_many_runs
  have hu := hu_of hr
  have hu64 := hr.units
  have hu70 := hu70_of hr
  exact (ds_one (ds_ret (de_callB (c_sum rfl) rfl T.m_sum (by decide +kernel) (da_cons (de_frz (de_lc (own := [("n", 1), ("many", 2)]) (ct := (.tup [1, 2])) rfl SC.nd (di_seq (dc C_lengths_of hr hgd rfl (da_cons (dv 0) da_nil))) (blkOk_by (by show blkC N_how_many_runs (defScope s_how_many_runs) _ _ = true; decide +kernel)) (by decide) (fun _ _ _ _ _ => pg_tup rfl (pgs_cons (pg_name (i := 1) SC.nd rfl (Or.inl rfl)) (pgs_cons (pg_name (i := 2) SC.nd rfl (Or.inl rfl)) pgs_nil))) (fun _ _ _ _ _ => dts_nil) (fun _ _ _ _ _ => (dv 2)))) da_nil))))
theorem k_how_many_runs (T : Tx K mg) {sp_lengths_of : DSp} (C_lengths_of : Callee P w K mg base k "lengths_of" P_lengths_of sp_lengths_of)
    (F : FunD K "how_many_runs" "how_many_runs" (defArgs s_how_many_runs) (defBody s_how_many_runs) (defScope s_how_many_runs) [] [] f fd) (hm : mg "how_many_runs" = some (.ref f)) (len : ∀ ds G Q E, sp ds G Q E → ds.length = 1)
    (ok : ∀ ds G Q E, sp ds G Q E → (r_how_many_runs sp_lengths_of) { nx := fun _ G' => Q .non G', rt := Q } (startD 3 ds) G) : Callee P w K mg base (k + 1) "how_many_runs" P_how_many_runs sp :=
  callee_of F hm (dfn_of F sc_how_many_runs len (b_how_many_runs T C_lengths_of) ok) (fun _ _ _ _ _ _ us hl => match us, hl with | [_], _ => rfl) (fun _ _ _ _ _ _ us hl => match us, hl with | [_], _ => rfl)
abbrev N_shortest_run : List Str := ["work", "ticks", "own", "found", "i", "part", "run", "one", "other", "sign"]
abbrev P_shortest_run : List Str := ["work"]
theorem sc_shortest_run : FnScope N_shortest_run P_shortest_run (defScope s_shortest_run) := ⟨rfl, rfl, rfl, by decide +kernel, rfl, by decide +kernel, by decide +kernel⟩
theorem b_shortest_run (T : Tx K mg) {sp_shortest_run : DSp} (C_shortest_run : Callee P w K mg base k "shortest_run" P_shortest_run sp_shortest_run)  (cdv : Value) (A : Around) (out : List Env) (st : Shared) (H : Hp) (E : XK)
    (hr : Room k (A.deeper (envOfC "shortest_run" (defScope s_shortest_run) st.heap.objs.size f cdv))) (hgd : (A.deeper (envOfC "shortest_run" (defScope s_shortest_run) st.heap.objs.size f cdv)).guards = some []) :
    DSs (cxOf CX0 P w K mg base N_shortest_run "shortest_run" (defScope s_shortest_run) f cdv A out st H E).nox (defBody s_shortest_run) (r_shortest_run sp_shortest_run) := by
  have SC := sc_shortest_run
  have hu := hu_of hr
  have hu64 := hr.units
  have hu70 := hu70_of hr
  exact (ds_one (ds_match (de_ix (dv 0) de_int) (dms_val (ds_one (ds_ret (de_op o_mul (de_tup (da_cons (de_glob rfl T.c_TICK) da_nil)) (de_ix (dv 0) de_int))))
  (dms_val (ds_cons (ds_set (i := 1) SC.nd rfl (by first | exact Or.inl rfl | exact Or.inr rfl) (de_op o_mul (de_tup (da_cons (de_glob rfl T.c_TICK) da_nil)) (de_ix (dv 0) de_int)))
  (ds_one (ds_ret (de_if (dt_tru (de_ix (dv 0) de_int)) (de_tup (da_cons (de_tup (da_cons de_str (da_cons (de_ix (dv 0) de_int) da_nil))) (da_star (dv 1) da_nil))) (de_tup (da_star (dv 1) (da_cons (de_glob rfl T.c_END) da_nil)))))))
  (dms_val (ds_cons (ds_set (i := 2) SC.nd rfl (by first | exact Or.inl rfl | exact Or.inr rfl) (dc C_shortest_run hr hgd rfl (da_cons (de_ix (dv 0) de_int) da_nil)))
  (ds_one (ds_ret (de_if (dt_tru (de_ix (dv 0) de_int)) (de_tup (da_cons (de_tup (da_cons de_str (da_cons (de_ix (dv 0) de_int) da_nil))) (da_star (de_op o_mul (dv 2) (de_ix (dv 0) de_int)) da_nil))) (de_op o_add (de_op o_mul (de_tup (da_cons (de_glob rfl T.c_MORE) (da_star (dv 2) da_nil))) (de_ix (dv 0) de_int)) (de_tup (da_cons (de_glob rfl T.c_END) da_nil)))))))
  (dms_val (ds_cons (ds_set (i := 3) SC.nd rfl (by first | exact Or.inl rfl | exact Or.inr rfl) (de_frz (de_lc (own := [("i", 4), ("part", 5)]) (ct := (.tup [4, 5])) rfl SC.nd (di_enumT rfl T.m_enumerate (de_ix (dv 0) de_int)) (blkOk_by (by show blkC N_shortest_run (defScope s_shortest_run) _ _ = true; decide +kernel)) (by decide) (fun _ _ _ _ _ => pg_tup rfl (pgs_cons (pg_name (i := 4) SC.nd rfl (Or.inl rfl)) (pgs_cons (pg_name (i := 5) SC.nd rfl (Or.inl rfl)) pgs_nil))) (fun _ _ _ _ _ => dts_nil) (fun _ _ _ _ _ => (de_tup (da_cons (de_tup (da_cons de_str (da_cons (dv 4) da_nil))) (da_star (dc C_shortest_run hr hgd rfl (da_cons (dv 5) da_nil)) da_nil)))))))
  (ds_one (ds_ret (de_ix (de_frz (de_lc (own := [("run", 6)]) (ct := (.one 6)) rfl SC.nd (di_seq (dv 3)) (blkOk_by (by show blkC N_shortest_run (defScope s_shortest_run) _ _ = true; decide +kernel)) (by decide) (fun _ _ _ _ _ => pg_name (i := 6) SC.nd rfl (by first | exact Or.inl rfl | exact Or.inr rfl)) (fun _ _ _ _ _ => (dts_one (dt_cmp (o_eq hu64) (de_callB c_len rfl T.m_len PySem.boot_len (da_cons (dv 6) da_nil)) (de_callB (c_min rfl) rfl T.m_min (by decide +kernel) (da_cons (de_frz (de_lc (own := [("one", 7)]) (ct := (.one 7)) rfl SC.nd (di_seq (dv 3)) (blkOk_by (by show blkC N_shortest_run (nestS (defScope s_shortest_run) _) _ _ = true; decide +kernel)) (by decide) (fun _ _ _ _ _ => pg_name (i := 7) SC.nd rfl (Or.inl rfl)) (fun _ _ _ _ _ => dts_nil) (fun _ _ _ _ _ => (de_callB c_len rfl T.m_len PySem.boot_len (da_cons (dv 7) da_nil))))) da_nil)) (nomark _)))) (fun _ _ _ _ _ => (dv 6)))) de_int))))
  (dms_val (ds_cons (ds_par (i := 7) (j := 8) rfl SC.nd rfl rfl (by decide) rfl rfl (da_cons (dc C_shortest_run hr hgd rfl (da_cons (de_ix (dv 0) de_int) da_nil)) (da_cons (dc C_shortest_run hr hgd rfl (da_cons (de_ix (dv 0) de_int) da_nil)) da_nil)) rfl)
  (ds_one (ds_ret (de_callTy c_tuple rfl T.m_tuple (by decide +kernel) (da_cons (de_frz (de_op o_add (de_frz (de_lc (own := [("sign", 9)]) (ct := (.one 9)) rfl SC.nd (di_seq (dv 7)) (blkOk_by (by show blkC N_shortest_run (defScope s_shortest_run) _ _ = true; decide +kernel)) (by decide) (fun _ _ _ _ _ => pg_name (i := 9) SC.nd rfl (Or.inl rfl)) (fun _ _ _ _ _ => dts_nil) (fun _ _ _ _ _ => (de_tup (da_cons de_str (da_cons (dv 9) da_nil)))))) (de_frz (de_lc (own := [("sign", 9)]) (ct := (.one 9)) rfl SC.nd (di_seq (dv 8)) (blkOk_by (by show blkC N_shortest_run (defScope s_shortest_run) _ _ = true; decide +kernel)) (by decide) (fun _ _ _ _ _ => pg_name (i := 9) SC.nd rfl (Or.inl rfl)) (fun _ _ _ _ _ => dts_nil) (fun _ _ _ _ _ => (de_tup (da_cons de_str (da_cons (dv 9) da_nil)))))))) da_nil)))))
  (dms_any (ds_one (ds_ret (de_callTy c_tuple rfl T.m_tuple (by decide +kernel) (da_cons (de_frz (de_lc2 (own := [("part", 5), ("sign", 9)]) (us := [9]) (ct := .one 5) (cj := .one 9) rfl SC.nd (di_seq (de_ix (dv 0) de_int)) (blkOk_by (by show blkC N_shortest_run (defScope s_shortest_run) _ _ = true; decide +kernel)) (by decide) (by decide) (by decide) (fun _ _ _ _ _ => pg_name (i := 5) SC.nd rfl (Or.inl rfl)) (fun _ _ _ _ _ => (di_seq (dc C_shortest_run hr hgd rfl (da_cons (dv 5) da_nil)))) (fun _ _ _ _ _ => pg_name (i := 9) SC.nd rfl (Or.inl rfl)) (fun _ _ _ _ _ => (dv 9)))) da_nil))))))))))))
theorem k_shortest_run (T : Tx K mg) {sp_shortest_run : DSp} (C_shortest_run : Callee P w K mg base k "shortest_run" P_shortest_run sp_shortest_run)
    (F : FunD K "shortest_run" "shortest_run" (defArgs s_shortest_run) (defBody s_shortest_run) (defScope s_shortest_run) [] [] f fd) (hm : mg "shortest_run" = some (.ref f)) (len : ∀ ds G Q E, sp ds G Q E → ds.length = 1)
    (ok : ∀ ds G Q E, sp ds G Q E → (r_shortest_run sp_shortest_run) { nx := fun _ G' => Q .non G', rt := Q } (startD 10 ds) G) : Callee P w K mg base (k + 1) "shortest_run" P_shortest_run sp :=
  callee_of F hm (dfn_of F sc_shortest_run len (b_shortest_run T C_shortest_run) ok) (fun _ _ _ _ _ _ us hl => match us, hl with | [_], _ => rfl) (fun _ _ _ _ _ _ us hl => match us, hl with | [_], _ => rfl)
theorem z_shortest_run {P : Program} {w : World} {K : PySem.W.Frag} {mg : Str → Option Value} {base : Heap} {f : Addr} {fd : FuncData} {sp : DSp} (F : FunD K "shortest_run" "shortest_run" (defArgs s_shortest_run) (defBody s_shortest_run) (defScope s_shortest_run) [] [] f fd) (hm : mg "shortest_run" = some (.ref f)) (h : ∀ ds G Q E, ¬ sp ds G Q E) : Callee P w K mg base 0 "shortest_run" P_shortest_run sp :=
  callee0 F hm h (fun _ _ _ _ _ _ us hl => match us, hl with | [_], _ => rfl) (fun _ _ _ _ _ _ us hl => match us, hl with | [_], _ => rfl)
abbrev N_law_feed : List Str := ["_law_script"]
abbrev P_law_feed : List Str := ["_law_script"]
theorem sc_law_feed : FnScope N_law_feed P_law_feed (defScope s_law_feed) := ⟨rfl, rfl, rfl, by decide +kernel, rfl, by decide +kernel, by decide +kernel⟩
theorem b_law_feed (T : Tx K mg)    (cdv : Value) (A : Around) (out : List Env) (st : Shared) (H : Hp) (E : XK)
    (hr : Room k (A.deeper (envOfC "_law_feed" (defScope s_law_feed) st.heap.objs.size f cdv))) (hgd : (A.deeper (envOfC "_law_feed" (defScope s_law_feed) st.heap.objs.size f cdv)).guards = some []) :
    DSs (cxOf CX0 P w K mg base N_law_feed "_law_feed" (defScope s_law_feed) f cdv A out st H E).nox (defBody s_law_feed) (r_law_feed) := by
  have SC := sc_law_feed
  have hu := hu_of hr
  have hu64 := hr.units
  have hu70 := hu70_of hr
  exact (ds_one (ds_ret (de_disp (dps_cons de_str (de_frz (de_callTy c_list rfl T.m_list (by decide +kernel) (da_cons (de_frz (de_slice (dv 0) do_none (do_some de_int))) da_nil))) (dps_cons de_str de_int (dps_cons de_str de_int (dps_cons de_str de_int dps_nil)))))))
theorem k_law_feed (T : Tx K mg)
    (F : FunD K "_law_feed" "_law_feed" (defArgs s_law_feed) (defBody s_law_feed) (defScope s_law_feed) [] [] f fd) (hm : mg "_law_feed" = some (.ref f)) (len : ∀ ds G Q E, sp ds G Q E → ds.length = 1)
    (ok : ∀ ds G Q E, sp ds G Q E → (r_law_feed) { nx := fun _ G' => Q .non G', rt := Q } (startD 1 ds) G) : Callee P w K mg base (k + 1) "_law_feed" P_law_feed sp :=
  callee_of F hm (dfn_of F sc_law_feed len (b_law_feed T) ok) (fun _ _ _ _ _ _ us hl => match us, hl with | [_], _ => rfl) (fun _ _ _ _ _ _ us hl => match us, hl with | [_], _ => rfl)
abbrev N_law_draw : List Str := ["_law_feed_here", "_law_many", "_law_digit", "_law_spot", "_law_cell", "_law_mixed"]
abbrev P_law_draw : List Str := ["_law_feed_here", "_law_many"]
theorem sc_law_draw : FnScope N_law_draw P_law_draw (defScope s_law_draw) := ⟨rfl, rfl, rfl, by decide +kernel, rfl, by decide +kernel, by decide +kernel⟩
theorem b_law_draw (T : Tx K mg)    (cdv : Value) (A : Around) (out : List Env) (st : Shared) (H : Hp) (E : XK)
    (hr : Room k (A.deeper (envOfC "_law_draw" (defScope s_law_draw) st.heap.objs.size f cdv))) (hgd : (A.deeper (envOfC "_law_draw" (defScope s_law_draw) st.heap.objs.size f cdv)).guards = some []) :
    DSs (cxOf CX0 P w K mg base N_law_draw "_law_draw" (defScope s_law_draw) f cdv A out st H E).nox (defBody s_law_draw) (r_law_draw) := by
  have SC := sc_law_draw
  have hu := hu_of hr
  have hu64 := hr.units
  have hu70 := hu70_of hr
  exact (ds_cons (ds_asg (de_op o_add (de_dget hu (dv 0) de_str) de_int) (dg_sub (dv 0) de_str (set_dct hu)))
  (ds_cons (ds_if (dt_cmp (o_eq hu64) (de_dget hu (dv 0) de_str) (de_frz (de_lst da_nil)) (nomark _))
  (ds_one (ds_ret (de_op o_mod (de_callTy c_int rfl T.m_int (by decide +kernel) (da_cons (de_op o_fdiv (de_op o_mul (de_dget hu (dv 0) de_str) de_int) de_int) da_nil)) (dv 1))))
  ds_nil)
  (ds_cons (ds_if (dt_cmp o_gt (de_dget hu (dv 0) de_str) de_int (nomark _))
  (ds_cons (ds_set (i := 2) SC.nd rfl (by first | exact Or.inl rfl | exact Or.inr rfl) (de_op o_mod (de_callTy c_int rfl T.m_int (by decide +kernel) (da_cons (de_dget hu (dv 0) de_str) da_nil)) (dv 1)))
  (ds_cons (ds_asg (de_op o_fdiv (de_dget hu (dv 0) de_str) (dv 1)) (dg_sub (dv 0) de_str (set_dct hu)))
  (ds_one (ds_ret (dv 2)))))
  ds_nil)
  (ds_cons (ds_set (i := 3) SC.nd rfl (by first | exact Or.inl rfl | exact Or.inr rfl) (de_dget hu (dv 0) de_str))
  (ds_cons (ds_asg (de_op o_add (dv 3) de_int) (dg_sub (dv 0) de_str (set_dct hu)))
  (ds_cons (ds_set (i := 4) SC.nd rfl (by first | exact Or.inl rfl | exact Or.inr rfl) (de_ix (de_dget hu (dv 0) de_str) (de_op o_mod (de_callTy c_int rfl T.m_int (by decide +kernel) (da_cons (dv 3) da_nil)) (de_callB c_len rfl T.m_len PySem.boot_len (da_cons (de_dget hu (dv 0) de_str) da_nil)))))
  (ds_cons (ds_if (dt_w (dw_and (dt_cmp o_ge (dv 4) (de_op o_pow de_int de_int) (nomark _)) (dw_and1 (dt_cmp o_lt (dv 3) (de_callB c_len rfl T.m_len PySem.boot_len (da_cons (de_dget hu (dv 0) de_str) da_nil)) (nomark _)))))
  (ds_cons (ds_asg (de_op o_fdiv (dv 4) (dv 1)) (dg_sub (dv 0) de_str (set_dct hu)))
  (ds_one (ds_ret (de_op o_mod (de_callTy c_int rfl T.m_int (by decide +kernel) (da_cons (dv 4) da_nil)) (dv 1)))))
  ds_nil)
  (ds_cons (ds_set (i := 5) SC.nd rfl (by first | exact Or.inl rfl | exact Or.inr rfl) (de_op o_mod (de_callTy c_int rfl T.m_int (by decide +kernel) (da_cons (de_op o_add (de_op o_add (de_op o_mod (de_callTy c_int rfl T.m_int (by decide +kernel) (da_cons (dv 4) da_nil)) de_int) (de_op o_mul de_int (de_dget hu (dv 0) de_str))) de_int) da_nil)) de_int))
  (ds_cons (ds_set (i := 5) SC.nd rfl (by first | exact Or.inl rfl | exact Or.inr rfl) (de_op o_mod (de_callTy c_int rfl T.m_int (by decide +kernel) (da_cons (de_op o_add (de_op o_add (de_op o_pow (dv 5) de_int) (de_op o_mul de_int (de_dget hu (dv 0) de_str))) de_int) da_nil)) de_int))
  (ds_one (ds_ret (de_op o_mod (de_callTy c_int rfl T.m_int (by decide +kernel) (da_cons (de_op o_fdiv (de_op o_mod (de_callTy c_int rfl T.m_int (by decide +kernel) (da_cons (de_op o_add (de_op o_pow (dv 5) de_int) (de_op o_mul de_int (dv 5))) da_nil)) de_int) de_int) da_nil)) (dv 1)))))))))))))
theorem k_law_draw (T : Tx K mg)
    (F : FunD K "_law_draw" "_law_draw" (defArgs s_law_draw) (defBody s_law_draw) (defScope s_law_draw) [] [] f fd) (hm : mg "_law_draw" = some (.ref f)) (len : ∀ ds G Q E, sp ds G Q E → ds.length = 2)
    (ok : ∀ ds G Q E, sp ds G Q E → (r_law_draw) { nx := fun _ G' => Q .non G', rt := Q } (startD 6 ds) G) : Callee P w K mg base (k + 1) "_law_draw" P_law_draw sp :=
  callee_of F hm (dfn_of F sc_law_draw len (b_law_draw T) ok) (fun _ _ _ _ _ _ us hl => match us, hl with | [_, _], _ => rfl) (fun _ _ _ _ _ _ us hl => match us, hl with | [_, _], _ => rfl)
abbrev N_law_tidy : List Str := ["_law_job_here", "_law_one", "_law_other", "_law_found", "_law_part", "_law_own"]
abbrev P_law_tidy : List Str := ["_law_job_here"]
theorem sc_law_tidy : FnScope N_law_tidy P_law_tidy (defScope s_law_tidy) := ⟨rfl, rfl, rfl, by decide +kernel, rfl, by decide +kernel, by decide +kernel⟩
theorem b_law_tidy (T : Tx K mg) {sp_law_tidy : DSp} (C_law_tidy : Callee P w K mg base k "_law_tidy" P_law_tidy sp_law_tidy)  (cdv : Value) (A : Around) (out : List Env) (st : Shared) (H : Hp) (E : XK)
    (hr : Room k (A.deeper (envOfC "_law_tidy" (defScope s_law_tidy) st.heap.objs.size f cdv))) (hgd : (A.deeper (envOfC "_law_tidy" (defScope s_law_tidy) st.heap.objs.size f cdv)).guards = some []) :
    DSs (cxOf CX0 P w K mg base N_law_tidy "_law_tidy" (defScope s_law_tidy) f cdv A out st H E).nox (defBody s_law_tidy) (r_law_tidy sp_law_tidy) := by
  have SC := sc_law_tidy
  have hu := hu_of hr
  have hu64 := hr.units
  have hu70 := hu70_of hr
  exact (ds_cons (ds_if (dt_cmp (o_eq hu64) (de_ix (dv 0) de_int) de_str (nomark _))
  (ds_cons (ds_par (i := 1) (j := 2) rfl SC.nd rfl rfl (by decide) rfl rfl (da_cons (dc C_law_tidy hr hgd rfl (da_cons (de_ix (dv 0) de_int) da_nil)) (da_cons (dc C_law_tidy hr hgd rfl (da_cons (de_ix (dv 0) de_int) da_nil)) da_nil)) rfl)
  (ds_one (ds_ret (de_if (dt_w (dw_and (dt_cmp (o_eq hu64) (dv 1) (de_tup (da_cons de_str (da_cons (de_tup da_nil) da_nil))) (nomark _)) (dw_and1 (dt_cmp (o_eq hu64) (dv 2) (de_tup (da_cons de_str (da_cons (de_tup da_nil) da_nil))) (nomark _))))) (de_tup (da_cons de_str (da_cons (de_tup da_nil) da_nil))) (de_tup (da_cons de_str (da_cons (dv 1) (da_cons (dv 2) da_nil))))))))
  ds_nil)
  (ds_cons (ds_if (dt_cmp (o_ne hu64) (de_ix (dv 0) de_int) de_str (nomark _))
  (ds_one (ds_ret (dv 0)))
  ds_nil)
  (ds_cons (ds_set (i := 3) SC.nd rfl (by first | exact Or.inl rfl | exact Or.inr rfl) (de_lst da_nil))
  (ds_cons (ds_for PassesOwn.never rfl (di_seq (de_ix (dv 0) de_int)) (dg_name (i := 4) SC.nd rfl (by first | exact Or.inl rfl | exact Or.inr rfl))
  (ds_cons (ds_set (i := 5) SC.nd rfl (by first | exact Or.inl rfl | exact Or.inr rfl) (dc C_law_tidy hr hgd rfl (da_cons (dv 4) da_nil)))
  (ds_one (ds_expr (de_extend (dv 3) (de_if (dt_cmp (o_eq hu64) (de_ix (dv 5) de_int) de_str (nomark _)) (de_frz (de_callTy c_list rfl T.m_list (by decide +kernel) (da_cons (de_ix (dv 5) de_int) da_nil))) (de_frz (de_lst (da_cons (dv 5) da_nil)))))))))
  (ds_one (ds_ret (de_if (dt_cmp (o_eq hu64) (de_callB c_len rfl T.m_len PySem.boot_len (da_cons (dv 3) da_nil)) de_int (nomark _)) (de_ix (dv 3) de_int) (de_tup (da_cons de_str (da_cons (de_callTy c_tuple rfl T.m_tuple (by decide +kernel) (da_cons (dv 3) da_nil)) da_nil))))))))))
theorem k_law_tidy (T : Tx K mg) {sp_law_tidy : DSp} (C_law_tidy : Callee P w K mg base k "_law_tidy" P_law_tidy sp_law_tidy)
    (F : FunD K "_law_tidy" "_law_tidy" (defArgs s_law_tidy) (defBody s_law_tidy) (defScope s_law_tidy) [] [] f fd) (hm : mg "_law_tidy" = some (.ref f)) (len : ∀ ds G Q E, sp ds G Q E → ds.length = 1)
    (ok : ∀ ds G Q E, sp ds G Q E → (r_law_tidy sp_law_tidy) { nx := fun _ G' => Q .non G', rt := Q } (startD 6 ds) G) : Callee P w K mg base (k + 1) "_law_tidy" P_law_tidy sp :=
  callee_of F hm (dfn_of F sc_law_tidy len (b_law_tidy T C_law_tidy) ok) (fun _ _ _ _ _ _ us hl => match us, hl with | [_], _ => rfl) (fun _ _ _ _ _ _ us hl => match us, hl with | [_], _ => rfl)
theorem z_law_tidy {P : Program} {w : World} {K : PySem.W.Frag} {mg : Str → Option Value} {base : Heap} {f : Addr} {fd : FuncData} {sp : DSp} (F : FunD K "_law_tidy" "_law_tidy" (defArgs s_law_tidy) (defBody s_law_tidy) (defScope s_law_tidy) [] [] f fd) (hm : mg "_law_tidy" = some (.ref f)) (h : ∀ ds G Q E, ¬ sp ds G Q E) : Callee P w K mg base 0 "_law_tidy" P_law_tidy sp :=
  callee0 F hm h (fun _ _ _ _ _ _ us hl => match us, hl with | [_], _ => rfl) (fun _ _ _ _ _ _ us hl => match us, hl with | [_], _ => rfl)
abbrev N_law_next : List Str := ["_law_job_here", "_law_word", "_law_n", "_law_found", "_law_i", "_law_one"]
abbrev P_law_next : List Str := ["_law_job_here"]
theorem sc_law_next : FnScope N_law_next P_law_next (defScope s_law_next) := ⟨rfl, rfl, rfl, by decide +kernel, rfl, by decide +kernel, by decide +kernel⟩
theorem b_law_next (T : Tx K mg) {sp_law_next : DSp} (C_law_next : Callee P w K mg base k "_law_next" P_law_next sp_law_next)  (cdv : Value) (A : Around) (out : List Env) (st : Shared) (H : Hp) (E : XK)
    (hr : Room k (A.deeper (envOfC "_law_next" (defScope s_law_next) st.heap.objs.size f cdv))) (hgd : (A.deeper (envOfC "_law_next" (defScope s_law_next) st.heap.objs.size f cdv)).guards = some []) :
    DSs (cxOf CX0 P w K mg base N_law_next "_law_next" (defScope s_law_next) f cdv A out st H E).nox (defBody s_law_next) (r_law_next sp_law_next) := by
  have SC := sc_law_next
  have hu := hu_of hr
  have hu64 := hr.units
  have hu70 := hu70_of hr
  exact (ds_cons (ds_set (i := 1) SC.nd rfl (by first | exact Or.inl rfl | exact Or.inr rfl) (de_ix (dv 0) de_int))
  (ds_cons (ds_if (dt_cmp (o_eq hu64) (dv 1) de_str (nomark _))
  (ds_one (ds_ret (de_frz (de_lst (da_cons de_str da_nil)))))
  ds_nil)
  (ds_cons (ds_if (dt_cmp (o_eq hu64) (dv 1) de_str (nomark _))
  (ds_one (ds_ret (de_if (dt_cmp (o_ne hu64) (de_ix (dv 0) de_int) (de_tup da_nil) (nomark _)) (dc C_law_next hr hgd rfl (da_cons (de_ix (de_ix (dv 0) de_int) de_int) da_nil)) (de_frz (de_lst da_nil)))))
  ds_nil)
  (ds_cons (ds_if (dt_w (dw_and (dt_cmp o_in (dv 1) (de_tup (da_cons de_str (da_cons de_str da_nil))) rfl) (dw_and1 (dt_tru (de_ix (dv 0) de_int)))))
  (ds_one (ds_ret (de_frz (de_lc (own := [("_law_n", 2)]) (ct := (.one 2)) rfl SC.nd (di_range2 rfl T.m_range (da_cons (de_ix (dv 0) de_int) (da_cons (de_op o_add (de_ix (dv 0) de_int) de_int) da_nil))) (blkOk_by (by show blkC N_law_next (defScope s_law_next) _ _ = true; decide +kernel)) (by decide) (fun _ _ _ _ _ => pg_name (i := 2) SC.nd rfl (Or.inl rfl)) (fun _ _ _ _ _ => dts_nil) (fun _ _ _ _ _ => (de_tup (da_cons de_str (da_cons (dv 2) da_nil))))))))
  ds_nil)
  (ds_cons (ds_if (dt_cmp o_in (dv 1) (de_tup (da_cons de_str (da_cons de_str da_nil))) rfl)
  (ds_cons (ds_set (i := 3) SC.nd rfl (by first | exact Or.inl rfl | exact Or.inr rfl) (de_frz (de_op o_mul (de_frz (de_lst (da_cons (de_dget hu (de_disp (dps_cons de_str de_str (dps_cons de_str de_str dps_nil))) (dv 1)) da_nil))) (de_callTy c_int rfl T.m_int (by decide +kernel) (da_cons (de_cmp o_gt (de_ix (dv 0) de_int) de_int (nomark _)) da_nil)))))
  (ds_one (ds_ret (de_frz (de_op o_add (dv 3) (de_frz (de_op o_mul (de_frz (de_lst (da_cons de_str da_nil))) (de_callTy c_int rfl T.m_int (by decide +kernel) (da_cons (de_cmp (o_eq hu64) (de_ix (dv 0) de_int) de_int (nomark _)) da_nil)))))))))
  ds_nil)
  (ds_cons (ds_if (dt_cmp (o_eq hu64) (dv 1) de_str (nomark _))
  (ds_one (ds_ret (de_frz (de_lc (own := [("_law_i", 4)]) (ct := (.one 4)) rfl SC.nd (di_range1 rfl T.m_range (da_cons (de_callB c_len rfl T.m_len PySem.boot_len (da_cons (de_ix (dv 0) de_int) da_nil)) da_nil)) (blkOk_by (by show blkC N_law_next (defScope s_law_next) _ _ = true; decide +kernel)) (by decide) (fun _ _ _ _ _ => pg_name (i := 4) SC.nd rfl (Or.inl rfl)) (fun _ _ _ _ _ => dts_nil) (fun _ _ _ _ _ => (de_tup (da_cons de_str (da_cons (dv 4) da_nil))))))))
  ds_nil)
  (ds_one (ds_ret (de_frz (de_op o_add (de_frz (de_lc (own := [("_law_one", 5)]) (ct := (.one 5)) rfl SC.nd (di_seq (dc C_law_next hr hgd rfl (da_cons (de_ix (dv 0) de_int) da_nil))) (blkOk_by (by show blkC N_law_next (defScope s_law_next) _ _ = true; decide +kernel)) (by decide) (fun _ _ _ _ _ => pg_name (i := 5) SC.nd rfl (Or.inl rfl)) (fun _ _ _ _ _ => dts_nil) (fun _ _ _ _ _ => (de_tup (da_cons de_str (da_cons (dv 5) da_nil)))))) (de_frz (de_lc (own := [("_law_one", 5)]) (ct := (.one 5)) rfl SC.nd (di_seq (dc C_law_next hr hgd rfl (da_cons (de_ix (dv 0) de_int) da_nil))) (blkOk_by (by show blkC N_law_next (defScope s_law_next) _ _ = true; decide +kernel)) (by decide) (fun _ _ _ _ _ => pg_name (i := 5) SC.nd rfl (Or.inl rfl)) (fun _ _ _ _ _ => dts_nil) (fun _ _ _ _ _ => (de_tup (da_cons de_str (da_cons (dv 5) da_nil))))))))))))))))
theorem k_law_next (T : Tx K mg) {sp_law_next : DSp} (C_law_next : Callee P w K mg base k "_law_next" P_law_next sp_law_next)
    (F : FunD K "_law_next" "_law_next" (defArgs s_law_next) (defBody s_law_next) (defScope s_law_next) [] [] f fd) (hm : mg "_law_next" = some (.ref f)) (len : ∀ ds G Q E, sp ds G Q E → ds.length = 1)
    (ok : ∀ ds G Q E, sp ds G Q E → (r_law_next sp_law_next) { nx := fun _ G' => Q .non G', rt := Q } (startD 6 ds) G) : Callee P w K mg base (k + 1) "_law_next" P_law_next sp :=
  callee_of F hm (dfn_of F sc_law_next len (b_law_next T C_law_next) ok) (fun _ _ _ _ _ _ us hl => match us, hl with | [_], _ => rfl) (fun _ _ _ _ _ _ us hl => match us, hl with | [_], _ => rfl)
theorem z_law_next {P : Program} {w : World} {K : PySem.W.Frag} {mg : Str → Option Value} {base : Heap} {f : Addr} {fd : FuncData} {sp : DSp} (F : FunD K "_law_next" "_law_next" (defArgs s_law_next) (defBody s_law_next) (defScope s_law_next) [] [] f fd) (hm : mg "_law_next" = some (.ref f)) (h : ∀ ds G Q E, ¬ sp ds G Q E) : Callee P w K mg base 0 "_law_next" P_law_next sp :=
  callee0 F hm h (fun _ _ _ _ _ _ us hl => match us, hl with | [_], _ => rfl) (fun _ _ _ _ _ _ us hl => match us, hl with | [_], _ => rfl)
abbrev N_law_behind : List Str := ["_law_job_here", "_law_mark", "_law_word", "_law_many"]
abbrev P_law_behind : List Str := ["_law_job_here", "_law_mark"]
theorem sc_law_behind : FnScope N_law_behind P_law_behind (defScope s_law_behind) := ⟨rfl, rfl, rfl, by decide +kernel, rfl, by decide +kernel, by decide +kernel⟩
theorem b_law_behind (T : Tx K mg) {sp_law_behind : DSp} (C_law_behind : Callee P w K mg base k "_law_behind" P_law_behind sp_law_behind)  (cdv : Value) (A : Around) (out : List Env) (st : Shared) (H : Hp) (E : XK)
    (hr : Room k (A.deeper (envOfC "_law_behind" (defScope s_law_behind) st.heap.objs.size f cdv))) (hgd : (A.deeper (envOfC "_law_behind" (defScope s_law_behind) st.heap.objs.size f cdv)).guards = some []) :
    DSs (cxOf CX0 P w K mg base N_law_behind "_law_behind" (defScope s_law_behind) f cdv A out st H E).nox (defBody s_law_behind) (r_law_behind sp_law_behind) := by
  have SC := sc_law_behind
  have hu := hu_of hr
  have hu64 := hr.units
  have hu70 := hu70_of hr
  exact (ds_cons (ds_set (i := 2) SC.nd rfl (by first | exact Or.inl rfl | exact Or.inr rfl) (de_ix (dv 0) de_int))
  (ds_cons (ds_if (dt_cmp (o_eq hu64) (dv 2) de_str (nomark _))
  (ds_one (ds_ret (de_tup (da_cons de_str (da_cons (de_op o_add (de_tup (da_cons (dc C_law_behind hr hgd rfl (da_cons (de_ix (de_ix (dv 0) de_int) de_int) (da_cons (dv 1) da_nil))) da_nil)) (de_slice (de_ix (dv 0) de_int) (do_some de_int) do_none)) da_nil)))))
  ds_nil)
  (ds_cons (ds_if (dt_cmp (o_eq hu64) (dv 2) de_str (nomark _))
  (ds_cons (ds_if (dt_cmp (o_eq hu64) (de_ix (dv 1) de_int) de_str (nomark _))
  (ds_one (ds_ret (de_tup (da_cons de_str (da_cons (dc C_law_behind hr hgd rfl (da_cons (de_ix (dv 0) de_int) (da_cons (de_ix (dv 1) de_int) da_nil))) (da_cons (de_ix (dv 0) de_int) da_nil))))))
  ds_nil)
  (ds_one (ds_ret (de_tup (da_cons de_str (da_cons (de_ix (dv 0) de_int) (da_cons (dc C_law_behind hr hgd rfl (da_cons (de_ix (dv 0) de_int) (da_cons (de_ix (dv 1) de_int) da_nil))) da_nil)))))))
  ds_nil)
  (ds_cons (ds_if (dt_cmp (o_eq hu64) (dv 2) de_str (nomark _))
  (ds_one (ds_ret (de_ix (de_ix (dv 0) de_int) (de_ix (dv 1) de_int))))
  ds_nil)
  (ds_cons (ds_if (dt_cmp (o_eq hu64) (dv 1) de_str (nomark _))
  (ds_one (ds_ret (de_tup (da_cons de_str (da_cons (de_tup da_nil) da_nil)))))
  ds_nil)
  (ds_cons (ds_if (dt_w (dw_or (dt_cmp (o_eq hu64) (dv 2) de_str (nomark _)) (dw_or1 (dt_w (dw_and (dt_cmp (o_eq hu64) (dv 2) de_str (nomark _)) (dw_and1 (dt_tru (de_ix (dv 0) de_int))))))))
  (ds_cons (ds_set (i := 3) SC.nd rfl (by first | exact Or.inl rfl | exact Or.inr rfl) (de_if (dt_cmp (o_eq hu64) (dv 2) de_str (nomark _)) (de_op o_sub (de_ix (dv 0) de_int) de_int) (de_ix (dv 1) de_int)))
  (ds_one (ds_ret (de_if (dt_cmp o_gt (dv 3) de_int (nomark _)) (de_tup (da_cons de_str (da_cons (dv 3) da_nil))) (de_tup (da_cons de_str (da_cons (de_tup da_nil) da_nil)))))))
  ds_nil)
  (ds_cons (ds_if (dt_cmp (o_eq hu64) (dv 2) de_str (nomark _))
  (ds_one (ds_ret (de_tup (da_cons de_str (da_cons (de_callB (c_max2 rfl) rfl T.m_max (by decide +kernel) (da_cons de_int (da_cons (de_op o_sub (de_ix (dv 0) de_int) de_int) da_nil))) (da_cons (de_op o_sub (de_ix (dv 0) de_int) de_int) (da_cons de_bl da_nil)))))))
  ds_nil)
  (ds_cons (ds_if (dt_tru (de_ix (dv 0) de_int))
  (ds_one (ds_ret (de_tup (da_cons de_str (da_cons (de_op o_mul (de_tup (da_cons (de_ix (dv 0) de_int) da_nil)) (de_ix (dv 1) de_int)) da_nil)))))
  ds_nil)
  (ds_one (ds_ret (de_tup (da_cons de_str (da_cons (de_tup (da_cons (de_ix (dv 0) de_int) (da_cons (de_tup (da_cons de_str (da_cons (de_callB (c_max2 rfl) rfl T.m_max (by decide +kernel) (da_cons de_int (da_cons (de_op o_sub (de_ix (dv 0) de_int) de_int) da_nil))) (da_cons (de_op o_sub (de_ix (dv 0) de_int) de_int) (da_cons de_bl (da_cons (de_ix (dv 0) de_int) da_nil)))))) da_nil))) da_nil)))))))))))))
theorem k_law_behind (T : Tx K mg) {sp_law_behind : DSp} (C_law_behind : Callee P w K mg base k "_law_behind" P_law_behind sp_law_behind)
    (F : FunD K "_law_behind" "_law_behind" (defArgs s_law_behind) (defBody s_law_behind) (defScope s_law_behind) [] [] f fd) (hm : mg "_law_behind" = some (.ref f)) (len : ∀ ds G Q E, sp ds G Q E → ds.length = 2)
    (ok : ∀ ds G Q E, sp ds G Q E → (r_law_behind sp_law_behind) { nx := fun _ G' => Q .non G', rt := Q } (startD 4 ds) G) : Callee P w K mg base (k + 1) "_law_behind" P_law_behind sp :=
  callee_of F hm (dfn_of F sc_law_behind len (b_law_behind T C_law_behind) ok) (fun _ _ _ _ _ _ us hl => match us, hl with | [_, _], _ => rfl) (fun _ _ _ _ _ _ us hl => match us, hl with | [_, _], _ => rfl)
theorem z_law_behind {P : Program} {w : World} {K : PySem.W.Frag} {mg : Str → Option Value} {base : Heap} {f : Addr} {fd : FuncData} {sp : DSp} (F : FunD K "_law_behind" "_law_behind" (defArgs s_law_behind) (defBody s_law_behind) (defScope s_law_behind) [] [] f fd) (hm : mg "_law_behind" = some (.ref f)) (h : ∀ ds G Q E, ¬ sp ds G Q E) : Callee P w K mg base 0 "_law_behind" P_law_behind sp :=
  callee0 F hm h (fun _ _ _ _ _ _ us hl => match us, hl with | [_, _], _ => rfl) (fun _ _ _ _ _ _ us hl => match us, hl with | [_, _], _ => rfl)
abbrev N_law_after : List Str := ["_law_job_here", "_law_mark"]
abbrev P_law_after : List Str := ["_law_job_here", "_law_mark"]
theorem sc_law_after : FnScope N_law_after P_law_after (defScope s_law_after) := ⟨rfl, rfl, rfl, by decide +kernel, rfl, by decide +kernel, by decide +kernel⟩
theorem b_law_after (T : Tx K mg) {sp_law_tidy : DSp} {sp_law_behind : DSp} (C_law_tidy : Callee P w K mg base k "_law_tidy" P_law_tidy sp_law_tidy) (C_law_behind : Callee P w K mg base k "_law_behind" P_law_behind sp_law_behind)  (cdv : Value) (A : Around) (out : List Env) (st : Shared) (H : Hp) (E : XK)
    (hr : Room k (A.deeper (envOfC "_law_after" (defScope s_law_after) st.heap.objs.size f cdv))) (hgd : (A.deeper (envOfC "_law_after" (defScope s_law_after) st.heap.objs.size f cdv)).guards = some []) :
    DSs (cxOf CX0 P w K mg base N_law_after "_law_after" (defScope s_law_after) f cdv A out st H E).nox (defBody s_law_after) (r_law_after sp_law_tidy sp_law_behind) := by
  have SC := sc_law_after
  have hu := hu_of hr
  have hu64 := hr.units
  have hu70 := hu70_of hr
  exact (ds_one (ds_ret (dc C_law_tidy hr hgd rfl (da_cons (dc C_law_behind hr hgd rfl (da_cons (dv 0) (da_cons (dv 1) da_nil))) da_nil))))
theorem k_law_after (T : Tx K mg) {sp_law_tidy : DSp} {sp_law_behind : DSp} (C_law_tidy : Callee P w K mg base k "_law_tidy" P_law_tidy sp_law_tidy) (C_law_behind : Callee P w K mg base k "_law_behind" P_law_behind sp_law_behind)
    (F : FunD K "_law_after" "_law_after" (defArgs s_law_after) (defBody s_law_after) (defScope s_law_after) [] [] f fd) (hm : mg "_law_after" = some (.ref f)) (len : ∀ ds G Q E, sp ds G Q E → ds.length = 2)
    (ok : ∀ ds G Q E, sp ds G Q E → (r_law_after sp_law_tidy sp_law_behind) { nx := fun _ G' => Q .non G', rt := Q } (startD 2 ds) G) : Callee P w K mg base (k + 1) "_law_after" P_law_after sp :=
  callee_of F hm (dfn_of F sc_law_after len (b_law_after T C_law_tidy C_law_behind) ok) (fun _ _ _ _ _ _ us hl => match us, hl with | [_, _], _ => rfl) (fun _ _ _ _ _ _ us hl => match us, hl with | [_, _], _ => rfl)
abbrev N_law_is_tick : List Str := ["_law_mark"]
abbrev P_law_is_tick : List Str := ["_law_mark"]
theorem sc_law_is_tick : FnScope N_law_is_tick P_law_is_tick (defScope s_law_is_tick) := ⟨rfl, rfl, rfl, by decide +kernel, rfl, by decide +kernel, by decide +kernel⟩
theorem b_law_is_tick (T : Tx K mg) {sp_law_is_tick : DSp} (C_law_is_tick : Callee P w K mg base k "_law_is_tick" P_law_is_tick sp_law_is_tick)  (cdv : Value) (A : Around) (out : List Env) (st : Shared) (H : Hp) (E : XK)
    (hr : Room k (A.deeper (envOfC "_law_is_tick" (defScope s_law_is_tick) st.heap.objs.size f cdv))) (hgd : (A.deeper (envOfC "_law_is_tick" (defScope s_law_is_tick) st.heap.objs.size f cdv)).guards = some []) :
    DSs (cxOf CX0 P w K mg base N_law_is_tick "_law_is_tick" (defScope s_law_is_tick) f cdv A out st H E).nox (defBody s_law_is_tick) (r_law_is_tick sp_law_is_tick) := by
  have SC := sc_law_is_tick
  have hu := hu_of hr
  have hu64 := hr.units
  have hu70 := hu70_of hr
  exact (ds_cons (ds_if (dt_tru (de_isi (T := "tuple") (by decide) rfl T.m_isinstance rfl T.m_tuple (by decide +kernel) (dv 0)))
  (ds_one (ds_ret (de_if (dt_cmp o_in (de_ix (dv 0) de_int) (de_tup (da_cons de_str (da_cons de_str da_nil))) rfl) (dc C_law_is_tick hr hgd rfl (da_cons (de_ix (dv 0) de_int) da_nil)) de_int)))
  ds_nil)
  (ds_one (ds_ret (de_callTy c_int rfl T.m_int (by decide +kernel) (da_cons (de_cmp (o_eq hu64) (dv 0) de_str (nomark _)) da_nil)))))
theorem k_law_is_tick (T : Tx K mg) {sp_law_is_tick : DSp} (C_law_is_tick : Callee P w K mg base k "_law_is_tick" P_law_is_tick sp_law_is_tick)
    (F : FunD K "_law_is_tick" "_law_is_tick" (defArgs s_law_is_tick) (defBody s_law_is_tick) (defScope s_law_is_tick) [] [] f fd) (hm : mg "_law_is_tick" = some (.ref f)) (len : ∀ ds G Q E, sp ds G Q E → ds.length = 1)
    (ok : ∀ ds G Q E, sp ds G Q E → (r_law_is_tick sp_law_is_tick) { nx := fun _ G' => Q .non G', rt := Q } (startD 1 ds) G) : Callee P w K mg base (k + 1) "_law_is_tick" P_law_is_tick sp :=
  callee_of F hm (dfn_of F sc_law_is_tick len (b_law_is_tick T C_law_is_tick) ok) (fun _ _ _ _ _ _ us hl => match us, hl with | [_], _ => rfl) (fun _ _ _ _ _ _ us hl => match us, hl with | [_], _ => rfl)
theorem z_law_is_tick {P : Program} {w : World} {K : PySem.W.Frag} {mg : Str → Option Value} {base : Heap} {f : Addr} {fd : FuncData} {sp : DSp} (F : FunD K "_law_is_tick" "_law_is_tick" (defArgs s_law_is_tick) (defBody s_law_is_tick) (defScope s_law_is_tick) [] [] f fd) (hm : mg "_law_is_tick" = some (.ref f)) (h : ∀ ds G Q E, ¬ sp ds G Q E) : Callee P w K mg base 0 "_law_is_tick" P_law_is_tick sp :=
  callee0 F hm h (fun _ _ _ _ _ _ us hl => match us, hl with | [_], _ => rfl) (fun _ _ _ _ _ _ us hl => match us, hl with | [_], _ => rfl)
abbrev N_law_end : List Str := ["_law_job_here", "_law_is_least", "_law_word", "_law_many", "_law_found", "_law_part"]
abbrev P_law_end : List Str := ["_law_job_here", "_law_is_least"]
theorem sc_law_end : FnScope N_law_end P_law_end (defScope s_law_end) := ⟨rfl, rfl, rfl, by decide +kernel, rfl, by decide +kernel, by decide +kernel⟩
theorem b_law_end (T : Tx K mg) {sp_law_end : DSp} (C_law_end : Callee P w K mg base k "_law_end" P_law_end sp_law_end)  (cdv : Value) (A : Around) (out : List Env) (st : Shared) (H : Hp) (E : XK)
    (hr : Room k (A.deeper (envOfC "_law_end" (defScope s_law_end) st.heap.objs.size f cdv))) (hgd : (A.deeper (envOfC "_law_end" (defScope s_law_end) st.heap.objs.size f cdv)).guards = some []) :
    DSs (cxOf CX0 P w K mg base N_law_end "_law_end" (defScope s_law_end) f cdv A out st H E).nox (defBody s_law_end) (r_law_end sp_law_end) := by
  have SC := sc_law_end
  have hu := hu_of hr
  have hu64 := hr.units
  have hu70 := hu70_of hr
  exact (ds_cons (ds_set (i := 2) SC.nd rfl (by first | exact Or.inl rfl | exact Or.inr rfl) (de_ix (dv 0) de_int))
  (ds_cons (ds_if (dt_cmp (o_eq hu64) (dv 2) de_str (nomark _))
  (ds_one (ds_ret (de_ix (dv 0) de_int)))
  ds_nil)
  (ds_cons (ds_if (dt_cmp o_in (dv 2) (de_tup (da_cons de_str (da_cons de_str da_nil))) rfl)
  (ds_cons (ds_set (i := 3) SC.nd rfl (by first | exact Or.inl rfl | exact Or.inr rfl) (de_if (dt_tru (dv 1)) (de_ix (dv 0) de_int) (de_ix (dv 0) de_int)))
  (ds_one (ds_ret (de_if (dt_cmp (o_eq hu64) (dv 2) de_str (nomark _)) (dv 3) (de_op o_mul (dv 3) (dc C_law_end hr hgd rfl (da_cons (de_ix (dv 0) de_int) (da_cons (dv 1) da_nil))))))))
  ds_nil)
  (ds_cons (ds_if (dt_cmp (o_eq hu64) (dv 2) de_str (nomark _))
  (ds_one (ds_ret (de_op o_add (dc C_law_end hr hgd rfl (da_cons (de_ix (dv 0) de_int) (da_cons (dv 1) da_nil))) (dc C_law_end hr hgd rfl (da_cons (de_ix (dv 0) de_int) (da_cons (dv 1) da_nil))))))
  ds_nil)
  (ds_cons (ds_setLcF (i := 4) (own := [("_law_part", 5)]) (ct := (.one 5)) rfl SC.nd rfl rfl (sw_true rfl rfl rfl (by decide +kernel)) (di_seq (de_ix (dv 0) de_int)) (blkOk_by (by show blkC N_law_end (defScope s_law_end) _ _ = true; decide +kernel)) (by decide) (fun _ _ _ _ _ => pg_name (i := 5) SC.nd rfl (Or.inl rfl)) (fun _ _ _ _ _ => dts_nil) (fun _ _ _ _ _ => (dc C_law_end hr hgd rfl (da_cons (dv 5) (da_cons (dv 1) da_nil)))))
  (ds_cons (ds_if (dt_cmp (o_eq hu64) (dv 2) de_str (nomark _))
  (ds_one (ds_ret (de_callB (c_sum rfl) rfl T.m_sum (by decide +kernel) (da_cons (dv 4) da_nil))))
  ds_nil)
  (ds_one (ds_ret (de_if (dt_tru (dv 1)) (de_callB (c_min rfl) rfl T.m_min (by decide +kernel) (da_cons (dv 4) da_nil)) (de_callB (c_max rfl) rfl T.m_max (by decide +kernel) (da_cons (dv 4) da_nil)))))))))))
theorem k_law_end (T : Tx K mg) {sp_law_end : DSp} (C_law_end : Callee P w K mg base k "_law_end" P_law_end sp_law_end)
    (F : FunD K "_law_end" "_law_end" (defArgs s_law_end) (defBody s_law_end) (defScope s_law_end) [] [] f fd) (hm : mg "_law_end" = some (.ref f)) (len : ∀ ds G Q E, sp ds G Q E → ds.length = 2)
    (ok : ∀ ds G Q E, sp ds G Q E → (r_law_end sp_law_end) { nx := fun _ G' => Q .non G', rt := Q } (startD 6 ds) G) : Callee P w K mg base (k + 1) "_law_end" P_law_end sp :=
  callee_of F hm (dfn_of F sc_law_end len (b_law_end T C_law_end) ok) (fun _ _ _ _ _ _ us hl => match us, hl with | [_, _], _ => rfl) (fun _ _ _ _ _ _ us hl => match us, hl with | [_, _], _ => rfl)
theorem z_law_end {P : Program} {w : World} {K : PySem.W.Frag} {mg : Str → Option Value} {base : Heap} {f : Addr} {fd : FuncData} {sp : DSp} (F : FunD K "_law_end" "_law_end" (defArgs s_law_end) (defBody s_law_end) (defScope s_law_end) [] [] f fd) (hm : mg "_law_end" = some (.ref f)) (h : ∀ ds G Q E, ¬ sp ds G Q E) : Callee P w K mg base 0 "_law_end" P_law_end sp :=
  callee0 F hm h (fun _ _ _ _ _ _ us hl => match us, hl with | [_, _], _ => rfl) (fun _ _ _ _ _ _ us hl => match us, hl with | [_, _], _ => rfl)
abbrev N_law_rounds : List Str := ["_law_both", "_law_told"]
abbrev P_law_rounds : List Str := []
theorem sc_law_rounds : FnScope N_law_rounds P_law_rounds (defScope s_law_rounds) := ⟨rfl, rfl, rfl, by decide +kernel, rfl, by decide +kernel, by decide +kernel⟩
theorem b_law_rounds (T : Tx K mg)    (cdv : Value) (A : Around) (out : List Env) (st : Shared) (H : Hp) (E : XK)
    (hr : Room k (A.deeper (envOfC "_law_rounds" (defScope s_law_rounds) st.heap.objs.size f cdv))) (hgd : (A.deeper (envOfC "_law_rounds" (defScope s_law_rounds) st.heap.objs.size f cdv)).guards = some []) :
    DSs (cxOf CX0 P w K mg base N_law_rounds "_law_rounds" (defScope s_law_rounds) f cdv A out st H E).nox (defBody s_law_rounds) (r_law_rounds) := by
  have SC := sc_law_rounds
  have hu := hu_of hr
  have hu64 := hr.units
  have hu70 := hu70_of hr
  exact (ds_cons (ds_setLcF (i := 0) (own := [("_law_told", 1)]) (ct := (.one 1)) rfl SC.nd rfl rfl (sw_true rfl rfl rfl (by decide +kernel)) (di_seq (de_tup (da_cons de_bl (da_cons de_bl da_nil)))) (blkOk_by (by show blkC N_law_rounds (defScope s_law_rounds) _ _ = true; decide +kernel)) (by decide) (fun _ _ _ _ _ => pg_name (i := 1) SC.nd rfl (Or.inl rfl)) (fun _ _ _ _ _ => dts_nil) (fun _ _ _ _ _ => (de_tup (da_cons de_str (da_cons (de_tup (da_cons (de_tup (da_cons de_str (da_cons de_int da_nil))) (da_cons (de_tup (da_cons de_str (da_cons de_int (da_cons de_int (da_cons (dv 1) (da_cons (de_tup (da_cons de_str (da_cons de_int da_nil))) da_nil)))))) da_nil))) da_nil)))))
  (ds_one (ds_ret (de_tup (da_cons (de_ix (dv 0) de_int) (da_cons (de_ix (dv 0) de_int) da_nil))))))
theorem k_law_rounds (T : Tx K mg)
    (F : FunD K "_law_rounds" "_law_rounds" (defArgs s_law_rounds) (defBody s_law_rounds) (defScope s_law_rounds) [] [] f fd) (hm : mg "_law_rounds" = some (.ref f)) (len : ∀ ds G Q E, sp ds G Q E → ds.length = 0)
    (ok : ∀ ds G Q E, sp ds G Q E → (r_law_rounds) { nx := fun _ G' => Q .non G', rt := Q } (startD 2 ds) G) : Callee P w K mg base (k + 1) "_law_rounds" P_law_rounds sp :=
  callee_of F hm (dfn_of F sc_law_rounds len (b_law_rounds T) ok) (fun _ _ _ _ _ _ us hl => match us, hl with | [], _ => rfl) (fun _ _ _ _ _ _ us hl => match us, hl with | [], _ => rfl)
abbrev N_law_job : List Str := ["_law_feed_here", "_law_deep", "_law_spare", "_law_which", "_law_least", "_law_many", "_law_is_side", "_law_some", "_law_k"]
abbrev P_law_job : List Str := ["_law_feed_here", "_law_deep", "_law_spare"]
theorem sc_law_job : FnScope N_law_job P_law_job (defScope s_law_job) := ⟨rfl, rfl, rfl, by decide +kernel, rfl, by decide +kernel, by decide +kernel⟩
theorem b_law_job (T : Tx K mg) {sp_law_draw : DSp} {sp_law_job : DSp} (C_law_draw : Callee P w K mg base k "_law_draw" P_law_draw sp_law_draw) (C_law_job : Callee P w K mg base k "_law_job" P_law_job sp_law_job)  (cdv : Value) (A : Around) (out : List Env) (st : Shared) (H : Hp) (E : XK)
    (hr : Room k (A.deeper (envOfC "_law_job" (defScope s_law_job) st.heap.objs.size f cdv))) (hgd : (A.deeper (envOfC "_law_job" (defScope s_law_job) st.heap.objs.size f cdv)).guards = some []) :
    DSs (cxOf CX0 P w K mg base N_law_job "_law_job" (defScope s_law_job) f cdv A out st H E).nox (defBody s_law_job) (r_law_job sp_law_draw sp_law_job) := by
  have SC := sc_law_job
  have hu := hu_of hr
  have hu64 := hr.units
  have hu70 := hu70_of hr
  exact (ds_cons (ds_set (i := 3) SC.nd rfl (by first | exact Or.inl rfl | exact Or.inr rfl) (de_if (dt_w (dw_and (dt_cmp o_gt (dv 1) de_int (nomark _)) (dw_and1 (dt_cmp o_gt (de_ix (dv 2) de_int) de_int (nomark _))))) (dc C_law_draw hr hgd rfl (da_cons (dv 0) (da_cons de_int da_nil))) (dc C_law_draw hr hgd rfl (da_cons (dv 0) (da_cons de_int da_nil)))))
  (ds_cons (ds_par (i := 4) (j := 5) rfl SC.nd rfl rfl (by decide) rfl rfl (da_cons (dc C_law_draw hr hgd rfl (da_cons (dv 0) (da_cons de_int da_nil))) (da_cons de_int da_nil)) rfl)
  (ds_cons (ds_if (dt_cmp (o_eq hu64) (dv 3) de_int (nomark _))
  (ds_one (ds_ret (de_tup (da_cons de_str (da_cons (de_op o_add de_int (dc C_law_draw hr hgd rfl (da_cons (dv 0) (da_cons de_int da_nil)))) da_nil)))))
  ds_nil)
  (ds_cons (ds_if (dt_cmp o_lt (dv 3) de_int (nomark _))
  (ds_one (ds_ret (de_tup (da_cons de_str (da_cons (dv 4) (da_cons (de_op o_add (dv 4) (dc C_law_draw hr hgd rfl (da_cons (dv 0) (da_cons de_int da_nil)))) (da_cons (de_cmp (o_eq hu64) (dv 3) de_int (nomark _)) da_nil)))))))
  ds_nil)
  (ds_cons (ds_if (dt_cmp o_lt (dv 3) de_int (nomark _))
  (ds_one (ds_set (i := 5) SC.nd rfl (by first | exact Or.inl rfl | exact Or.inr rfl) (de_callB (c_min2 rfl) rfl T.m_min (by decide +kernel) (da_cons (dc C_law_draw hr hgd rfl (da_cons (dv 0) (da_cons de_int da_nil))) (da_cons (de_ix (dv 2) de_int) da_nil)))))
  (ds_one (ds_if (dt_cmp o_gt (dv 3) de_int (nomark _))
  (ds_one (ds_set (i := 5) SC.nd rfl (by first | exact Or.inl rfl | exact Or.inr rfl) (de_if (dt_w (dw_or (dt_cmp (o_eq hu64) (dv 3) de_int (nomark _)) (dw_or1 (dt_not (dt_tru (de_ix (dv 2) de_int)))))) (de_op o_add de_int (dc C_law_draw hr hgd rfl (da_cons (dv 0) (da_cons de_int da_nil)))) de_int)))
  ds_nil)))
  (ds_cons (ds_set (i := 6) SC.nd rfl (by first | exact Or.inl rfl | exact Or.inr rfl) (de_and (de_cmp (o_eq hu64) (dv 3) de_int (nomark _)) (de_one (de_ix (dv 2) de_int))))
  (ds_cons (ds_asg (de_tup (da_cons (de_op o_sub (de_ix (dv 2) de_int) (dv 5)) (da_cons (de_and (de_ix (dv 2) de_int) (de_one (de_not (dv 6)))) da_nil))) (dg_tup rfl (dgs_cons (dg_sub (dv 2) de_int set_lst) (dgs_cons (dg_sub (dv 2) de_int set_lst) dgs_nil))))
  (ds_cons (ds_setLcF (i := 7) (own := [("_law_k", 8)]) (ct := (.one 8)) rfl SC.nd rfl rfl (sw_true rfl rfl rfl (by decide +kernel)) (di_range1 rfl T.m_range (da_cons (dv 5) da_nil)) (blkOk_by (by show blkC N_law_job (defScope s_law_job) _ _ = true; decide +kernel)) (by decide) (fun _ _ _ _ _ => pg_name (i := 8) SC.nd rfl (Or.inl rfl)) (fun _ _ _ _ _ => dts_nil) (fun _ _ _ _ _ => (dc C_law_job hr hgd rfl (da_cons (dv 0) (da_cons (de_op o_sub (dv 1) de_int) (da_cons (dv 2) da_nil))))))
  (ds_cons (ds_if (dt_cmp o_in (dv 3) (de_tup (da_cons de_int (da_cons de_int da_nil))) rfl)
  (ds_one (ds_ret (de_tup (da_cons de_str (da_cons (dv 4) (da_cons (de_op o_add (dv 4) (dc C_law_draw hr hgd rfl (da_cons (dv 0) (da_cons de_int da_nil)))) (da_cons (de_cmp (o_eq hu64) (dv 3) de_int (nomark _)) (da_cons (de_ix (dv 7) de_int) da_nil))))))))
  ds_nil)
  (ds_cons (ds_if (dt_tru (dv 6))
  (ds_one (ds_ret (de_tup (da_cons de_str (da_cons (de_ix (dv 7) de_int) (da_cons (de_ix (dv 7) de_int) da_nil))))))
  ds_nil)
  (ds_one (ds_ret (de_tup (da_cons (de_if (dt_cmp o_lt (dv 3) de_int (nomark _)) de_str de_str) (da_cons (de_callTy c_tuple rfl T.m_tuple (by decide +kernel) (da_cons (dv 7) da_nil)) da_nil)))))))))))))))
theorem k_law_job (T : Tx K mg) {sp_law_draw : DSp} {sp_law_job : DSp} (C_law_draw : Callee P w K mg base k "_law_draw" P_law_draw sp_law_draw) (C_law_job : Callee P w K mg base k "_law_job" P_law_job sp_law_job)
    (F : FunD K "_law_job" "_law_job" (defArgs s_law_job) (defBody s_law_job) (defScope s_law_job) [] [] f fd) (hm : mg "_law_job" = some (.ref f)) (len : ∀ ds G Q E, sp ds G Q E → ds.length = 3)
    (ok : ∀ ds G Q E, sp ds G Q E → (r_law_job sp_law_draw sp_law_job) { nx := fun _ G' => Q .non G', rt := Q } (startD 9 ds) G) : Callee P w K mg base (k + 1) "_law_job" P_law_job sp :=
  callee_of F hm (dfn_of F sc_law_job len (b_law_job T C_law_draw C_law_job) ok) (fun _ _ _ _ _ _ us hl => match us, hl with | [_, _, _], _ => rfl) (fun _ _ _ _ _ _ us hl => match us, hl with | [_, _, _], _ => rfl)
theorem z_law_job {P : Program} {w : World} {K : PySem.W.Frag} {mg : Str → Option Value} {base : Heap} {f : Addr} {fd : FuncData} {sp : DSp} (F : FunD K "_law_job" "_law_job" (defArgs s_law_job) (defBody s_law_job) (defScope s_law_job) [] [] f fd) (hm : mg "_law_job" = some (.ref f)) (h : ∀ ds G Q E, ¬ sp ds G Q E) : Callee P w K mg base 0 "_law_job" P_law_job sp :=
  callee0 F hm h (fun _ _ _ _ _ _ us hl => match us, hl with | [_, _, _], _ => rfl) (fun _ _ _ _ _ _ us hl => match us, hl with | [_, _, _], _ => rfl)
abbrev N_law_sides : List Str := []
abbrev P_law_sides : List Str := []
theorem sc_law_sides : FnScope N_law_sides P_law_sides (defScope s_law_sides) := ⟨rfl, rfl, rfl, by decide +kernel, rfl, by decide +kernel, by decide +kernel⟩
theorem b_law_sides (T : Tx K mg)    (cdv : Value) (A : Around) (out : List Env) (st : Shared) (H : Hp) (E : XK)
    (hr : Room k (A.deeper (envOfC "_law_sides" (defScope s_law_sides) st.heap.objs.size f cdv))) (hgd : (A.deeper (envOfC "_law_sides" (defScope s_law_sides) st.heap.objs.size f cdv)).guards = some []) :
    DSs (cxOf CX0 P w K mg base N_law_sides "_law_sides" (defScope s_law_sides) f cdv A out st H E).nox (defBody s_law_sides) (r_law_sides) := by
  have SC := sc_law_sides
  have hu := hu_of hr
  have hu64 := hr.units
  have hu70 := hu70_of hr
  exact (ds_one (ds_ret (de_tup (da_cons de_str (da_cons (de_tup (da_cons de_str (da_cons de_int da_nil))) (da_cons (de_tup (da_cons de_str (da_cons de_int (da_cons de_int (da_cons de_bl da_nil))))) da_nil))))))
theorem k_law_sides (T : Tx K mg)
    (F : FunD K "_law_sides" "_law_sides" (defArgs s_law_sides) (defBody s_law_sides) (defScope s_law_sides) [] [] f fd) (hm : mg "_law_sides" = some (.ref f)) (len : ∀ ds G Q E, sp ds G Q E → ds.length = 0)
    (ok : ∀ ds G Q E, sp ds G Q E → (r_law_sides) { nx := fun _ G' => Q .non G', rt := Q } (startD 0 ds) G) : Callee P w K mg base (k + 1) "_law_sides" P_law_sides sp :=
  callee_of F hm (dfn_of F sc_law_sides len (b_law_sides T) ok) (fun _ _ _ _ _ _ us hl => match us, hl with | [], _ => rfl) (fun _ _ _ _ _ _ us hl => match us, hl with | [], _ => rfl)
abbrev N_law_great : List Str := ["_law_inner", "_law_long", "_law_both"]
abbrev P_law_great : List Str := []
theorem sc_law_great : FnScope N_law_great P_law_great (defScope s_law_great) := ⟨rfl, rfl, rfl, by decide +kernel, rfl, by decide +kernel, by decide +kernel⟩
theorem b_law_great (T : Tx K mg)    (cdv : Value) (A : Around) (out : List Env) (st : Shared) (H : Hp) (E : XK)
    (hr : Room k (A.deeper (envOfC "_law_great" (defScope s_law_great) st.heap.objs.size f cdv))) (hgd : (A.deeper (envOfC "_law_great" (defScope s_law_great) st.heap.objs.size f cdv)).guards = some []) :
    DSs (cxOf CX0 P w K mg base N_law_great "_law_great" (defScope s_law_great) f cdv A out st H E).nox (defBody s_law_great) (r_law_great) := by
  have SC := sc_law_great
  have hu := hu_of hr
  have hu64 := hr.units
  have hu70 := hu70_of hr
  exact (ds_cons (ds_set (i := 0) SC.nd rfl (by first | exact Or.inl rfl | exact Or.inr rfl) (de_tup (da_cons de_str (da_cons (de_tup (da_cons (de_tup (da_cons de_str (da_cons de_int da_nil))) (da_cons (de_tup (da_cons de_str (da_cons de_int (da_cons de_int (da_cons de_bl da_nil))))) da_nil))) da_nil))))
  (ds_cons (ds_set (i := 1) SC.nd rfl (by first | exact Or.inl rfl | exact Or.inr rfl) (de_tup (da_cons de_str (da_cons (de_tup (da_cons (de_tup (da_cons de_str (da_cons de_int (da_cons de_int (da_cons de_bl (da_cons (dv 0) da_nil)))))) (da_cons (de_tup (da_cons de_str (da_cons (de_tup (da_cons (de_tup (da_cons de_str (da_cons de_int da_nil))) (da_cons (de_tup (da_cons de_str (da_cons de_int (da_cons de_int (da_cons de_bl da_nil))))) da_nil))) da_nil))) da_nil))) da_nil))))
  (ds_cons (ds_set (i := 2) SC.nd rfl (by first | exact Or.inl rfl | exact Or.inr rfl) (de_tup (da_cons de_str (da_cons (de_tup (da_cons (de_tup (da_cons de_str (da_cons de_int da_nil))) (da_cons (de_tup (da_cons de_str (da_cons (de_tup (da_cons de_str (da_cons de_int (da_cons de_int (da_cons de_bl da_nil))))) (da_cons (de_tup (da_cons de_str (da_cons de_int (da_cons de_int (da_cons de_bl (da_cons (de_tup (da_cons de_str (da_cons de_int da_nil))) da_nil)))))) da_nil)))) da_nil))) da_nil))))
  (ds_one (ds_ret (de_tup (da_cons (dv 1) (da_cons (dv 2) (da_cons (de_tup (da_cons de_str (da_cons (de_tup (da_cons (de_tup (da_cons de_str (da_cons de_int da_nil))) (da_cons (de_tup (da_cons de_str (da_cons de_int (da_cons de_int (da_cons de_bl (da_cons (de_tup (da_cons de_str (da_cons de_int da_nil))) da_nil)))))) da_nil))) da_nil))) da_nil)))))))))
theorem k_law_great (T : Tx K mg)
    (F : FunD K "_law_great" "_law_great" (defArgs s_law_great) (defBody s_law_great) (defScope s_law_great) [] [] f fd) (hm : mg "_law_great" = some (.ref f)) (len : ∀ ds G Q E, sp ds G Q E → ds.length = 0)
    (ok : ∀ ds G Q E, sp ds G Q E → (r_law_great) { nx := fun _ G' => Q .non G', rt := Q } (startD 3 ds) G) : Callee P w K mg base (k + 1) "_law_great" P_law_great sp :=
  callee_of F hm (dfn_of F sc_law_great len (b_law_great T) ok) (fun _ _ _ _ _ _ us hl => match us, hl with | [], _ => rfl) (fun _ _ _ _ _ _ us hl => match us, hl with | [], _ => rfl)
abbrev N_law_lengths : List Str := ["_law_job_here", "_law_known", "_law_key_now", "_law_table", "_law_mark", "_law_n", "_law_many"]
abbrev P_law_lengths : List Str := ["_law_job_here", "_law_known"]
theorem sc_law_lengths : FnScope N_law_lengths P_law_lengths (defScope s_law_lengths) := ⟨rfl, rfl, rfl, by decide +kernel, rfl, by decide +kernel, by decide +kernel⟩
theorem b_law_lengths (T : Tx K mg) {sp_law_next : DSp} {sp_law_lengths : DSp} {sp_law_after : DSp} (C_law_next : Callee P w K mg base k "_law_next" P_law_next sp_law_next) (C_law_lengths : Callee P w K mg base k "_law_lengths" P_law_lengths sp_law_lengths) (C_law_after : Callee P w K mg base k "_law_after" P_law_after sp_law_after)  (cdv : Value) (A : Around) (out : List Env) (st : Shared) (H : Hp) (E : XK)
    (hr : Room k (A.deeper (envOfC "_law_lengths" (defScope s_law_lengths) st.heap.objs.size f cdv))) (hgd : (A.deeper (envOfC "_law_lengths" (defScope s_law_lengths) st.heap.objs.size f cdv)).guards = some []) :
    DSs (cxOf CX0 P w K mg base N_law_lengths "_law_lengths" (defScope s_law_lengths) f cdv A out st H E).nox (defBody s_law_lengths) (r_law_lengths sp_law_next sp_law_lengths sp_law_after) := by
  have SC := sc_law_lengths
  have hu := hu_of hr
  have hu64 := hr.units
  have hu70 := hu70_of hr
  exact (ds_cons (ds_set (i := 2) SC.nd rfl (by first | exact Or.inl rfl | exact Or.inr rfl) (de_callB (c_repr hgd hu70) rfl T.m_repr (by decide +kernel) (da_cons (dv 0) da_nil)))
  (ds_cons (ds_if (dt_din hu (.inr ⟨rfl, rfl⟩) (dv 2) (dv 1) rfl)
  (ds_cons (ds_set (i := 3) SC.nd rfl (by first | exact Or.inl rfl | exact Or.inr rfl) (de_if (dt_cmp (o_ne hu64) (dc C_law_next hr hgd rfl (da_cons (dv 0) da_nil)) (de_frz (de_lst da_nil)) (nomark _)) de_newK (de_disp (dps_cons de_int de_int dps_nil))))
  (ds_cons (ds_for PassesOwn.never rfl (di_seq (dc C_law_next hr hgd rfl (da_cons (dv 0) da_nil))) (dg_name (i := 4) SC.nd rfl (by first | exact Or.inl rfl | exact Or.inr rfl))
  (ds_one (ds_for PassesOwn.never rfl (di_seq (dc C_law_lengths hr hgd rfl (da_cons (dc C_law_after hr hgd rfl (da_cons (dv 0) (da_cons (dv 4) da_nil))) (da_cons (dv 1) da_nil)))) (dg_tup rfl (dgs_cons (dg_name (i := 5) SC.nd rfl (by first | exact Or.inl rfl | exact Or.inr rfl)) (dgs_cons (dg_name (i := 6) SC.nd rfl (by first | exact Or.inl rfl | exact Or.inr rfl)) dgs_nil)))
  (ds_one (ds_asg (de_op o_add (de_get2 hu (dv 3) (de_op o_add (dv 5) de_int) de_int) (dv 6)) (dg_sub (dv 3) (de_op o_add (dv 5) de_int) (set_dct hu)))))))
  (ds_one (ds_asg (de_frz (de_sortI rfl rfl T.m_sorted (dv 3))) (dg_sub (dv 1) (dv 2) (set_dct hu))))))
  ds_nil)
  (ds_one (ds_ret (de_dget hu (dv 1) (dv 2))))))
theorem k_law_lengths (T : Tx K mg) {sp_law_next : DSp} {sp_law_lengths : DSp} {sp_law_after : DSp} (C_law_next : Callee P w K mg base k "_law_next" P_law_next sp_law_next) (C_law_lengths : Callee P w K mg base k "_law_lengths" P_law_lengths sp_law_lengths) (C_law_after : Callee P w K mg base k "_law_after" P_law_after sp_law_after)
    (F : FunD K "_law_lengths" "_law_lengths" (defArgs s_law_lengths) (defBody s_law_lengths) (defScope s_law_lengths) [] [] f fd) (hm : mg "_law_lengths" = some (.ref f)) (len : ∀ ds G Q E, sp ds G Q E → ds.length = 2)
    (ok : ∀ ds G Q E, sp ds G Q E → (r_law_lengths sp_law_next sp_law_lengths sp_law_after) { nx := fun _ G' => Q .non G', rt := Q } (startD 7 ds) G) : Callee P w K mg base (k + 1) "_law_lengths" P_law_lengths sp :=
  callee_of F hm (dfn_of F sc_law_lengths len (b_law_lengths T C_law_next C_law_lengths C_law_after) ok) (fun _ _ _ _ _ _ us hl => match us, hl with | [_, _], _ => rfl) (fun _ _ _ _ _ _ us hl => match us, hl with | [_, _], _ => rfl)
theorem z_law_lengths {P : Program} {w : World} {K : PySem.W.Frag} {mg : Str → Option Value} {base : Heap} {f : Addr} {fd : FuncData} {sp : DSp} (F : FunD K "_law_lengths" "_law_lengths" (defArgs s_law_lengths) (defBody s_law_lengths) (defScope s_law_lengths) [] [] f fd) (hm : mg "_law_lengths" = some (.ref f)) (h : ∀ ds G Q E, ¬ sp ds G Q E) : Callee P w K mg base 0 "_law_lengths" P_law_lengths sp :=
  callee0 F hm h (fun _ _ _ _ _ _ us hl => match us, hl with | [_, _], _ => rfl) (fun _ _ _ _ _ _ us hl => match us, hl with | [_, _], _ => rfl)
abbrev N_law_shortest : List Str := ["_law_job_here", "_law_here", "_law_known", "_law_found", "_law_nexts", "_law_k", "_law_mark"]
abbrev P_law_shortest : List Str := ["_law_job_here"]
theorem sc_law_shortest : FnScope N_law_shortest P_law_shortest (defScope s_law_shortest) := ⟨rfl, rfl, rfl, by decide +kernel, rfl, by decide +kernel, by decide +kernel⟩
theorem b_law_shortest (T : Tx K mg) {sp_law_next : DSp} {sp_law_after : DSp} {sp_law_lengths : DSp} {sp_law_tidy : DSp} (C_law_next : Callee P w K mg base k "_law_next" P_law_next sp_law_next) (C_law_after : Callee P w K mg base k "_law_after" P_law_after sp_law_after) (C_law_lengths : Callee P w K mg base k "_law_lengths" P_law_lengths sp_law_lengths) (C_law_tidy : Callee P w K mg base k "_law_tidy" P_law_tidy sp_law_tidy)  (cdv : Value) (A : Around) (out : List Env) (st : Shared) (H : Hp) (E : XK)
    (hr : Room k (A.deeper (envOfC "_law_shortest" (defScope s_law_shortest) st.heap.objs.size f cdv))) (hgd : (A.deeper (envOfC "_law_shortest" (defScope s_law_shortest) st.heap.objs.size f cdv)).guards = some []) :
    DSs (cxOf CX0 P w K mg base N_law_shortest "_law_shortest" (defScope s_law_shortest) f cdv A out st H E).nox (defBody s_law_shortest) (r_law_shortest sp_law_next sp_law_after sp_law_lengths sp_law_tidy) := by
  have SC := sc_law_shortest
  have hu := hu_of hr
  have hu64 := hr.units
  have hu70 := hu70_of hr
  exact (ds_cons (ds_asg (de_tup (da_cons (dc C_law_tidy hr hgd rfl (da_cons (dv 0) da_nil)) (da_cons de_newK (da_cons (de_tup da_nil) da_nil)))) (dg_tup rfl (dgs_cons (dg_name (i := 1) SC.nd rfl (by first | exact Or.inl rfl | exact Or.inr rfl)) (dgs_cons (dg_name (i := 2) SC.nd rfl (by first | exact Or.inl rfl | exact Or.inr rfl)) (dgs_cons (dg_name (i := 3) SC.nd rfl (by first | exact Or.inl rfl | exact Or.inr rfl)) dgs_nil)))))
  (ds_cons (ds_while PassesOwn.never (dt_cmp (o_ne hu64) (dc C_law_next hr hgd rfl (da_cons (dv 1) da_nil)) (de_frz (de_lst da_nil)) (nomark _))
  (ds_cons (ds_setLcF (i := 4) (own := [("_law_k", 5), ("_law_mark", 6)]) (ct := (.tup [5, 6])) rfl SC.nd rfl rfl (sw_true rfl rfl rfl (by decide +kernel)) (di_enumL rfl T.m_enumerate (dc C_law_next hr hgd rfl (da_cons (dv 1) da_nil))) (blkOk_by (by show blkC N_law_shortest (defScope s_law_shortest) _ _ = true; decide +kernel)) (by decide) (fun _ _ _ _ _ => pg_tup rfl (pgs_cons (pg_name (i := 5) SC.nd rfl (Or.inl rfl)) (pgs_cons (pg_name (i := 6) SC.nd rfl (Or.inl rfl)) pgs_nil))) (fun _ _ _ _ _ => dts_nil) (fun _ _ _ _ _ => (de_tup (da_cons (de_ix (de_ix (dc C_law_lengths hr hgd rfl (da_cons (dc C_law_after hr hgd rfl (da_cons (dv 1) (da_cons (dv 6) da_nil))) (da_cons (dv 2) da_nil))) de_int) de_int) (da_cons (dv 5) da_nil)))))
  (ds_cons (ds_set (i := 6) SC.nd rfl (by first | exact Or.inl rfl | exact Or.inr rfl) (de_ix (dc C_law_next hr hgd rfl (da_cons (dv 1) da_nil)) (de_ix (de_callB (c_minP rfl hu70) rfl T.m_min (by decide +kernel) (da_cons (dv 4) da_nil)) de_int)))
  (ds_cons (ds_set (i := 3) SC.nd rfl (by first | exact Or.inl rfl | exact Or.inr rfl) (de_op o_add (dv 3) (de_tup (da_cons (dv 6) da_nil))))
  (ds_one (ds_set (i := 1) SC.nd rfl (by first | exact Or.inl rfl | exact Or.inr rfl) (dc C_law_after hr hgd rfl (da_cons (dv 1) (da_cons (dv 6) da_nil)))))))))
  (ds_one (ds_ret (dv 3)))))
theorem k_law_shortest (T : Tx K mg) {sp_law_next : DSp} {sp_law_after : DSp} {sp_law_lengths : DSp} {sp_law_tidy : DSp} (C_law_next : Callee P w K mg base k "_law_next" P_law_next sp_law_next) (C_law_after : Callee P w K mg base k "_law_after" P_law_after sp_law_after) (C_law_lengths : Callee P w K mg base k "_law_lengths" P_law_lengths sp_law_lengths) (C_law_tidy : Callee P w K mg base k "_law_tidy" P_law_tidy sp_law_tidy)
    (F : FunD K "_law_shortest" "_law_shortest" (defArgs s_law_shortest) (defBody s_law_shortest) (defScope s_law_shortest) [] [] f fd) (hm : mg "_law_shortest" = some (.ref f)) (len : ∀ ds G Q E, sp ds G Q E → ds.length = 1)
    (ok : ∀ ds G Q E, sp ds G Q E → (r_law_shortest sp_law_next sp_law_after sp_law_lengths sp_law_tidy) { nx := fun _ G' => Q .non G', rt := Q } (startD 7 ds) G) : Callee P w K mg base (k + 1) "_law_shortest" P_law_shortest sp :=
  callee_of F hm (dfn_of F sc_law_shortest len (b_law_shortest T C_law_next C_law_after C_law_lengths C_law_tidy) ok) (fun _ _ _ _ _ _ us hl => match us, hl with | [_], _ => rfl) (fun _ _ _ _ _ _ us hl => match us, hl with | [_], _ => rfl)
abbrev N_law_is_small : List Str := ["_law_job_here", "_law_pile", "_law_seen", "_law_done", "_law_here", "_law_mark", "_law_late"]
abbrev P_law_is_small : List Str := ["_law_job_here"]
theorem sc_law_is_small : FnScope N_law_is_small P_law_is_small (defScope s_law_is_small) := ⟨rfl, rfl, rfl, by decide +kernel, rfl, by decide +kernel, by decide +kernel⟩
theorem b_law_is_small (T : Tx K mg) {sp_law_end : DSp} {sp_law_next : DSp} {sp_law_after : DSp} {sp_law_is_tick : DSp} {sp_law_tidy : DSp} (C_law_end : Callee P w K mg base k "_law_end" P_law_end sp_law_end) (C_law_next : Callee P w K mg base k "_law_next" P_law_next sp_law_next) (C_law_after : Callee P w K mg base k "_law_after" P_law_after sp_law_after) (C_law_is_tick : Callee P w K mg base k "_law_is_tick" P_law_is_tick sp_law_is_tick) (C_law_tidy : Callee P w K mg base k "_law_tidy" P_law_tidy sp_law_tidy)  (cdv : Value) (A : Around) (out : List Env) (st : Shared) (H : Hp) (E : XK)
    (hr : Room k (A.deeper (envOfC "_law_is_small" (defScope s_law_is_small) st.heap.objs.size f cdv))) (hgd : (A.deeper (envOfC "_law_is_small" (defScope s_law_is_small) st.heap.objs.size f cdv)).guards = some []) :
    DSs (cxOf CX0 P w K mg base N_law_is_small "_law_is_small" (defScope s_law_is_small) f cdv A out st H E).nox (defBody s_law_is_small) (r_law_is_small sp_law_end sp_law_next sp_law_after sp_law_is_tick sp_law_tidy) := by
  have SC := sc_law_is_small
  have hu := hu_of hr
  have hu64 := hr.units
  have hu70 := hu70_of hr
  exact (ds_cons (ds_set (i := 1) SC.nd rfl (by first | exact Or.inl rfl | exact Or.inr rfl) (de_lst (da_cons (de_tup (da_cons de_int (da_cons (dc C_law_tidy hr hgd rfl (da_cons (dv 0) da_nil)) da_nil))) da_nil)))
  (ds_cons (ds_set (i := 2) SC.nd rfl (by first | exact Or.inl rfl | exact Or.inr rfl) (de_disp (dps_cons (de_callB (c_repr hgd hu70) rfl T.m_repr (by decide +kernel) (da_cons (de_ix (dv 1) de_int) da_nil)) de_int dps_nil)))
  (ds_cons (ds_while PassesOwn.never (dt_w (dw_and (dt_cmp (o_ne hu64) (dv 1) (de_frz (de_lst da_nil)) (nomark _)) (dw_and1 (dt_cmp o_le (de_callB c_len rfl T.m_len PySem.boot_len (da_cons (dv 2) da_nil)) de_int (nomark _)))))
  (ds_cons (ds_asg (de_pop (dv 1)) (dg_tup rfl (dgs_cons (dg_name (i := 3) SC.nd rfl (by first | exact Or.inl rfl | exact Or.inr rfl)) (dgs_cons (dg_name (i := 4) SC.nd rfl (by first | exact Or.inl rfl | exact Or.inr rfl)) dgs_nil))))
  (ds_one (ds_for PassesOwn.never rfl (di_seq (dc C_law_next hr hgd rfl (da_cons (dv 4) da_nil))) (dg_name (i := 5) SC.nd rfl (by first | exact Or.inl rfl | exact Or.inr rfl))
  (ds_cons (ds_set (i := 6) SC.nd rfl (by first | exact Or.inl rfl | exact Or.inr rfl) (de_tup (da_cons (de_op o_add (dv 3) (dc C_law_is_tick hr hgd rfl (da_cons (dv 5) da_nil))) (da_cons (dc C_law_after hr hgd rfl (da_cons (dv 4) (da_cons (dv 5) da_nil))) da_nil))))
  (ds_one (ds_if (dt_din hu (.inr ⟨rfl, rfl⟩) (de_callB (c_repr hgd hu70) rfl T.m_repr (by decide +kernel) (da_cons (dv 6) da_nil)) (dv 2) rfl)
  (ds_cons (ds_asg de_int (dg_sub (dv 2) (de_callB (c_repr hgd hu70) rfl T.m_repr (by decide +kernel) (da_cons (dv 6) da_nil)) (set_dct hu)))
  (ds_one (ds_expr (de_append (dv 1) (dv 6)))))
  ds_nil)))))))
  (ds_one (ds_ret (de_and (de_cmp o_le (de_callB c_len rfl T.m_len PySem.boot_len (da_cons (dv 2) da_nil)) de_int (nomark _)) (de_one (de_cmp o_le (dc C_law_end hr hgd rfl (da_cons (dv 0) (da_cons de_bl da_nil))) de_int (nomark _)))))))))
theorem k_law_is_small (T : Tx K mg) {sp_law_end : DSp} {sp_law_next : DSp} {sp_law_after : DSp} {sp_law_is_tick : DSp} {sp_law_tidy : DSp} (C_law_end : Callee P w K mg base k "_law_end" P_law_end sp_law_end) (C_law_next : Callee P w K mg base k "_law_next" P_law_next sp_law_next) (C_law_after : Callee P w K mg base k "_law_after" P_law_after sp_law_after) (C_law_is_tick : Callee P w K mg base k "_law_is_tick" P_law_is_tick sp_law_is_tick) (C_law_tidy : Callee P w K mg base k "_law_tidy" P_law_tidy sp_law_tidy)
    (F : FunD K "_law_is_small" "_law_is_small" (defArgs s_law_is_small) (defBody s_law_is_small) (defScope s_law_is_small) [] [] f fd) (hm : mg "_law_is_small" = some (.ref f)) (len : ∀ ds G Q E, sp ds G Q E → ds.length = 1)
    (ok : ∀ ds G Q E, sp ds G Q E → (r_law_is_small sp_law_end sp_law_next sp_law_after sp_law_is_tick sp_law_tidy) { nx := fun _ G' => Q .non G', rt := Q } (startD 7 ds) G) : Callee P w K mg base (k + 1) "_law_is_small" P_law_is_small sp :=
  callee_of F hm (dfn_of F sc_law_is_small len (b_law_is_small T C_law_end C_law_next C_law_after C_law_is_tick C_law_tidy) ok) (fun _ _ _ _ _ _ us hl => match us, hl with | [_], _ => rfl) (fun _ _ _ _ _ _ us hl => match us, hl with | [_], _ => rfl)
abbrev N_law_small_job : List Str := ["_law_feed_here", "_law_deep", "_law_spare", "_law_job_here"]
abbrev P_law_small_job : List Str := ["_law_feed_here", "_law_deep", "_law_spare"]
theorem sc_law_small_job : FnScope N_law_small_job P_law_small_job (defScope s_law_small_job) := ⟨rfl, rfl, rfl, by decide +kernel, rfl, by decide +kernel, by decide +kernel⟩
theorem b_law_small_job (T : Tx K mg) {sp_law_is_small : DSp} {sp_law_rounds : DSp} {sp_law_draw : DSp} {sp_law_job : DSp} (C_law_is_small : Callee P w K mg base k "_law_is_small" P_law_is_small sp_law_is_small) (C_law_rounds : Callee P w K mg base k "_law_rounds" P_law_rounds sp_law_rounds) (C_law_draw : Callee P w K mg base k "_law_draw" P_law_draw sp_law_draw) (C_law_job : Callee P w K mg base k "_law_job" P_law_job sp_law_job)  (cdv : Value) (A : Around) (out : List Env) (st : Shared) (H : Hp) (E : XK)
    (hr : Room k (A.deeper (envOfC "_law_small_job" (defScope s_law_small_job) st.heap.objs.size f cdv))) (hgd : (A.deeper (envOfC "_law_small_job" (defScope s_law_small_job) st.heap.objs.size f cdv)).guards = some []) :
    DSs (cxOf CX0 P w K mg base N_law_small_job "_law_small_job" (defScope s_law_small_job) f cdv A out st H E).nox (defBody s_law_small_job) (r_law_small_job sp_law_is_small sp_law_rounds sp_law_draw sp_law_job) := by
  have SC := sc_law_small_job
  have hu := hu_of hr
  have hu64 := hr.units
  have hu70 := hu70_of hr
  exact (ds_cons (ds_set (i := 3) SC.nd rfl (by first | exact Or.inl rfl | exact Or.inr rfl) (dc C_law_job hr hgd rfl (da_cons (dv 0) (da_cons (dv 1) (da_cons (dv 2) da_nil)))))
  (ds_one (ds_ret (de_if (dt_tru (dc C_law_is_small hr hgd rfl (da_cons (dv 3) da_nil))) (dv 3) (de_ix (dc0 C_law_rounds hr hgd rfl) (dc C_law_draw hr hgd rfl (da_cons (dv 0) (da_cons de_int da_nil))))))))
theorem k_law_small_job (T : Tx K mg) {sp_law_is_small : DSp} {sp_law_rounds : DSp} {sp_law_draw : DSp} {sp_law_job : DSp} (C_law_is_small : Callee P w K mg base k "_law_is_small" P_law_is_small sp_law_is_small) (C_law_rounds : Callee P w K mg base k "_law_rounds" P_law_rounds sp_law_rounds) (C_law_draw : Callee P w K mg base k "_law_draw" P_law_draw sp_law_draw) (C_law_job : Callee P w K mg base k "_law_job" P_law_job sp_law_job)
    (F : FunD K "_law_small_job" "_law_small_job" (defArgs s_law_small_job) (defBody s_law_small_job) (defScope s_law_small_job) [] [] f fd) (hm : mg "_law_small_job" = some (.ref f)) (len : ∀ ds G Q E, sp ds G Q E → ds.length = 3)
    (ok : ∀ ds G Q E, sp ds G Q E → (r_law_small_job sp_law_is_small sp_law_rounds sp_law_draw sp_law_job) { nx := fun _ G' => Q .non G', rt := Q } (startD 4 ds) G) : Callee P w K mg base (k + 1) "_law_small_job" P_law_small_job sp :=
  callee_of F hm (dfn_of F sc_law_small_job len (b_law_small_job T C_law_is_small C_law_rounds C_law_draw C_law_job) ok) (fun _ _ _ _ _ _ us hl => match us, hl with | [_, _, _], _ => rfl) (fun _ _ _ _ _ _ us hl => match us, hl with | [_, _, _], _ => rfl)
abbrev N_law_broad : List Str := ["_law_ways"]
abbrev P_law_broad : List Str := []
theorem sc_law_broad : FnScope N_law_broad P_law_broad (defScope s_law_broad) := ⟨rfl, rfl, rfl, by decide +kernel, rfl, by decide +kernel, by decide +kernel⟩
theorem b_law_broad (T : Tx K mg)    (cdv : Value) (A : Around) (out : List Env) (st : Shared) (H : Hp) (E : XK)
    (hr : Room k (A.deeper (envOfC "_law_broad" (defScope s_law_broad) st.heap.objs.size f cdv))) (hgd : (A.deeper (envOfC "_law_broad" (defScope s_law_broad) st.heap.objs.size f cdv)).guards = some []) :
    DSs (cxOf CX0 P w K mg base N_law_broad "_law_broad" (defScope s_law_broad) f cdv A out st H E).nox (defBody s_law_broad) (r_law_broad) := by
  have SC := sc_law_broad
  have hu := hu_of hr
  have hu64 := hr.units
  have hu70 := hu70_of hr
  exact (ds_cons (ds_set (i := 0) SC.nd rfl (by first | exact Or.inl rfl | exact Or.inr rfl) (de_tup (da_cons de_str (da_cons (de_tup (da_cons (de_tup (da_cons de_str (da_cons de_int da_nil))) (da_cons (de_tup (da_cons de_str (da_cons de_int da_nil))) (da_cons (de_tup (da_cons de_str (da_cons de_int da_nil))) (da_cons (de_tup (da_cons de_str (da_cons de_int da_nil))) (da_cons (de_tup (da_cons de_str (da_cons (de_tup da_nil) da_nil))) da_nil)))))) da_nil))))
  (ds_one (ds_ret (de_tup (da_cons (dv 0) (da_cons (de_tup (da_cons de_str (da_cons de_int (da_cons de_int (da_cons de_bl (da_cons (de_tup (da_cons de_str (da_cons de_int da_nil))) da_nil)))))) (da_cons (de_tup (da_cons de_str (da_cons de_int (da_cons de_int (da_cons de_bl da_nil))))) (da_cons (de_tup (da_cons de_str (da_cons de_int (da_cons de_int (da_cons de_bl da_nil))))) da_nil))))))))
theorem k_law_broad (T : Tx K mg)
    (F : FunD K "_law_broad" "_law_broad" (defArgs s_law_broad) (defBody s_law_broad) (defScope s_law_broad) [] [] f fd) (hm : mg "_law_broad" = some (.ref f)) (len : ∀ ds G Q E, sp ds G Q E → ds.length = 0)
    (ok : ∀ ds G Q E, sp ds G Q E → (r_law_broad) { nx := fun _ G' => Q .non G', rt := Q } (startD 1 ds) G) : Callee P w K mg base (k + 1) "_law_broad" P_law_broad sp :=
  callee_of F hm (dfn_of F sc_law_broad len (b_law_broad T) ok) (fun _ _ _ _ _ _ us hl => match us, hl with | [], _ => rfl) (fun _ _ _ _ _ _ us hl => match us, hl with | [], _ => rfl)
abbrev N_law_agrees : List Str := ["_law_job_here", "_law_before", "_law_rows", "_law_due", "_law_n", "_law_many", "_law_told", "_law_more"]
abbrev P_law_agrees : List Str := ["_law_job_here"]
theorem sc_law_agrees : FnScope N_law_agrees P_law_agrees (defScope s_law_agrees) := ⟨rfl, rfl, rfl, by decide +kernel, rfl, by decide +kernel, by decide +kernel⟩
theorem b_law_agrees (T : Tx K mg) {sp_shortest_run : DSp} {sp_how_many_runs : DSp} {sp_lengths_of : DSp} {sp_law_shortest : DSp} {sp_law_lengths : DSp} {sp_law_tidy : DSp} (C_shortest_run : Callee P w K mg base k "shortest_run" P_shortest_run sp_shortest_run) (C_how_many_runs : Callee P w K mg base k "how_many_runs" P_how_many_runs sp_how_many_runs) (C_lengths_of : Callee P w K mg base k "lengths_of" P_lengths_of sp_lengths_of) (C_law_shortest : Callee P w K mg base k "_law_shortest" P_law_shortest sp_law_shortest) (C_law_lengths : Callee P w K mg base k "_law_lengths" P_law_lengths sp_law_lengths) (C_law_tidy : Callee P w K mg base k "_law_tidy" P_law_tidy sp_law_tidy)  (cdv : Value) (A : Around) (out : List Env) (st : Shared) (H : Hp) (E : XK)
    (hr : Room k (A.deeper (envOfC "_law_agrees" (defScope s_law_agrees) st.heap.objs.size f cdv))) (hgd : (A.deeper (envOfC "_law_agrees" (defScope s_law_agrees) st.heap.objs.size f cdv)).guards = some []) :
    DSs (cxOf CX0 P w K mg base N_law_agrees "_law_agrees" (defScope s_law_agrees) f cdv A out st H E).nox (defBody s_law_agrees) (r_law_agrees sp_shortest_run sp_how_many_runs sp_lengths_of sp_law_shortest sp_law_lengths sp_law_tidy) := by
  have SC := sc_law_agrees
  have hu := hu_of hr
  have hu64 := hr.units
  have hu70 := hu70_of hr
  exact (ds_cons (ds_par (i := 1) (j := 2) rfl SC.nd rfl rfl (by decide) rfl rfl (da_cons (de_callB (c_reprA hgd hu70) rfl T.m_repr (by decide +kernel) (da_cons (dv 0) da_nil)) (da_cons (de_callTy c_tuple rfl T.m_tuple (by decide +kernel) (da_cons (dc C_law_lengths hr hgd rfl (da_cons (dc C_law_tidy hr hgd rfl (da_cons (dv 0) da_nil)) (da_cons de_newK da_nil))) da_nil)) da_nil)) rfl)
  (ds_cons (ds_set (i := 3) SC.nd rfl (by first | exact Or.inl rfl | exact Or.inr rfl) (de_frz (de_lst (da_cons (dv 2) (da_cons (de_callB (c_sum rfl) rfl T.m_sum (by decide +kernel) (da_cons (de_frz (de_lc (own := [("_law_n", 4), ("_law_many", 5)]) (ct := (.tup [4, 5])) rfl SC.nd (di_seq (dv 2)) (blkOk_by (by show blkC N_law_agrees (defScope s_law_agrees) _ _ = true; decide +kernel)) (by decide) (fun _ _ _ _ _ => pg_tup rfl (pgs_cons (pg_name (i := 4) SC.nd rfl (Or.inl rfl)) (pgs_cons (pg_name (i := 5) SC.nd rfl (Or.inl rfl)) pgs_nil))) (fun _ _ _ _ _ => dts_nil) (fun _ _ _ _ _ => (dv 5)))) da_nil)) (da_cons (dc C_law_shortest hr hgd rfl (da_cons (dv 0) da_nil)) da_nil))))))
  (ds_cons (ds_set (i := 6) SC.nd rfl (by first | exact Or.inl rfl | exact Or.inr rfl) (de_frz (de_lst (da_cons (dc C_lengths_of hr hgd rfl (da_cons (dv 0) da_nil)) (da_cons (dc C_how_many_runs hr hgd rfl (da_cons (dv 0) da_nil)) (da_cons (dc C_shortest_run hr hgd rfl (da_cons (dv 0) da_nil)) da_nil))))))
  (ds_cons (ds_set (i := 7) SC.nd rfl (by first | exact Or.inl rfl | exact Or.inr rfl) (de_frz (de_lst (da_cons (dck C_lengths_of hr hgd rfl (dk_cons (dv 0) dk_nil)) (da_cons (dck C_how_many_runs hr hgd rfl (dk_cons (dv 0) dk_nil)) (da_cons (dck C_shortest_run hr hgd rfl (dk_cons (dv 0) dk_nil)) da_nil))))))
  (ds_one (ds_ret (de_and (de_cmp (o_eq hu64) (de_callB (c_reprA hgd hu70) rfl T.m_repr (by decide +kernel) (da_cons (de_frz (de_lst (da_cons (dv 6) (da_cons (dv 7) da_nil)))) da_nil)) (de_callB (c_reprA hgd hu70) rfl T.m_repr (by decide +kernel) (da_cons (de_frz (de_lst (da_cons (dv 3) (da_cons (dv 3) da_nil)))) da_nil)) (nomark _)) (de_one (de_cmp (o_eq hu64) (de_callB (c_reprA hgd hu70) rfl T.m_repr (by decide +kernel) (da_cons (dv 0) da_nil)) (dv 1) (nomark _))))))))))
theorem k_law_agrees (T : Tx K mg) {sp_shortest_run : DSp} {sp_how_many_runs : DSp} {sp_lengths_of : DSp} {sp_law_shortest : DSp} {sp_law_lengths : DSp} {sp_law_tidy : DSp} (C_shortest_run : Callee P w K mg base k "shortest_run" P_shortest_run sp_shortest_run) (C_how_many_runs : Callee P w K mg base k "how_many_runs" P_how_many_runs sp_how_many_runs) (C_lengths_of : Callee P w K mg base k "lengths_of" P_lengths_of sp_lengths_of) (C_law_shortest : Callee P w K mg base k "_law_shortest" P_law_shortest sp_law_shortest) (C_law_lengths : Callee P w K mg base k "_law_lengths" P_law_lengths sp_law_lengths) (C_law_tidy : Callee P w K mg base k "_law_tidy" P_law_tidy sp_law_tidy)
    (F : FunD K "_law_agrees" "_law_agrees" (defArgs s_law_agrees) (defBody s_law_agrees) (defScope s_law_agrees) [] [] f fd) (hm : mg "_law_agrees" = some (.ref f)) (len : ∀ ds G Q E, sp ds G Q E → ds.length = 1)
    (ok : ∀ ds G Q E, sp ds G Q E → (r_law_agrees sp_shortest_run sp_how_many_runs sp_lengths_of sp_law_shortest sp_law_lengths sp_law_tidy) { nx := fun _ G' => Q .non G', rt := Q } (startD 8 ds) G) : Callee P w K mg base (k + 1) "_law_agrees" P_law_agrees sp :=
  callee_of F hm (dfn_of F sc_law_agrees len (b_law_agrees T C_shortest_run C_how_many_runs C_lengths_of C_law_shortest C_law_lengths C_law_tidy) ok) (fun _ _ _ _ _ _ us hl => match us, hl with | [_], _ => rfl) (fun _ _ _ _ _ _ us hl => match us, hl with | [_], _ => rfl)
abbrev N_law : List Str := ["_law_script", "_law_feed_here", "_law_none", "_law_jobs", "_law_job_here", "_law_turn"]
abbrev P_law : List Str := ["_law_script"]
theorem sc_law : FnScope N_law P_law (defScope s_law) := ⟨rfl, rfl, rfl, by decide +kernel, rfl, by decide +kernel, by decide +kernel⟩
theorem b_law (T : Tx K mg) {sp_law_agrees : DSp} {sp_law_small_job : DSp} {sp_law_draw : DSp} {sp_law_rounds : DSp} {sp_law_broad : DSp} {sp_law_sides : DSp} {sp_law_great : DSp} {sp_shortest_run : DSp} {sp_how_many_runs : DSp} {sp_lengths_of : DSp} {sp_law_feed : DSp} (C_law_agrees : Callee P w K mg base k "_law_agrees" P_law_agrees sp_law_agrees) (C_law_small_job : Callee P w K mg base k "_law_small_job" P_law_small_job sp_law_small_job) (C_law_draw : Callee P w K mg base k "_law_draw" P_law_draw sp_law_draw) (C_law_rounds : Callee P w K mg base k "_law_rounds" P_law_rounds sp_law_rounds) (C_law_broad : Callee P w K mg base k "_law_broad" P_law_broad sp_law_broad) (C_law_sides : Callee P w K mg base k "_law_sides" P_law_sides sp_law_sides) (C_law_great : Callee P w K mg base k "_law_great" P_law_great sp_law_great) (C_shortest_run : Callee P w K mg base k "shortest_run" P_shortest_run sp_shortest_run) (C_how_many_runs : Callee P w K mg base k "how_many_runs" P_how_many_runs sp_how_many_runs) (C_lengths_of : Callee P w K mg base k "lengths_of" P_lengths_of sp_lengths_of) (C_law_feed : Callee P w K mg base k "_law_feed" P_law_feed sp_law_feed)  (cdv : Value) (A : Around) (out : List Env) (st : Shared) (H : Hp) (E : XK)
    (hr : Room k (A.deeper (envOfC "law" (defScope s_law) st.heap.objs.size f cdv))) (hgd : (A.deeper (envOfC "law" (defScope s_law) st.heap.objs.size f cdv)).guards = some []) :
    DSs (cxOf CX0 P w K mg base N_law "law" (defScope s_law) f cdv A out st H E).nox (defBody s_law) (r_law sp_law_agrees sp_law_small_job sp_law_draw sp_law_rounds sp_law_broad sp_law_sides sp_law_great sp_shortest_run sp_how_many_runs sp_lengths_of sp_law_feed) := by
  have SC := sc_law
  have hu := hu_of hr
  have hu64 := hr.units
  have hu70 := hu70_of hr
  exact (ds_cons (ds_set (i := 1) SC.nd rfl (by first | exact Or.inl rfl | exact Or.inr rfl) (dc C_law_feed hr hgd rfl (da_cons (dv 0) da_nil)))
  (ds_cons (ds_set (i := 2) SC.nd rfl (by first | exact Or.inl rfl | exact Or.inr rfl) (de_tup (da_cons de_str (da_cons (de_tup da_nil) da_nil))))
  (ds_cons (ds_if (dt_w (dw_or (dt_cmp (o_ne hu64) (dc C_lengths_of hr hgd rfl (da_cons (dv 2) da_nil)) (de_tup (da_cons (de_tup (da_cons de_int (da_cons de_int da_nil))) da_nil)) (nomark _)) (dw_or (dt_cmp (o_ne hu64) (dc C_how_many_runs hr hgd rfl (da_cons (dc0 C_law_sides hr hgd rfl) da_nil)) de_int (nomark _)) (dw_or1 (dt_cmp (o_ne hu64) (dc C_shortest_run hr hgd rfl (da_cons (dv 2) da_nil)) (de_tup da_nil) (nomark _))))))
  (ds_one (ds_ret de_bl))
  ds_nil)
  (ds_cons (ds_set (i := 3) SC.nd rfl (by first | exact Or.inl rfl | exact Or.inr rfl) (de_lst (da_cons (dv 2) (da_cons (de_tup (da_cons de_str (da_cons (de_tup (da_cons (de_tup (da_cons de_str (da_cons de_int da_nil))) (da_cons (dv 2) (da_cons (de_tup (da_cons de_str (da_cons de_int da_nil))) da_nil)))) da_nil))) (da_cons (de_tup (da_cons de_str (da_cons de_int (da_cons de_int (da_cons de_bl (da_cons (de_tup (da_cons de_str (da_cons de_int (da_cons de_int (da_cons de_bl da_nil))))) da_nil)))))) da_nil)))))
  (ds_cons (ds_expr (de_append (dv 3) (de_tup (da_cons de_str (da_cons (de_tup (da_cons (de_tup (da_cons de_str (da_cons de_int da_nil))) (da_cons (de_tup (da_cons de_str (da_cons de_int (da_cons de_int (da_cons de_bl da_nil))))) da_nil))) da_nil)))))
  (ds_cons (ds_for PassesOwn.never rfl (di_seq (de_frz (de_op o_add (de_frz (de_op o_add (de_frz (de_op o_add (dv 3) (de_frz (de_callTy c_list rfl T.m_list (by decide +kernel) (da_cons (de_op o_add (dc0 C_law_rounds hr hgd rfl) (dc0 C_law_broad hr hgd rfl)) da_nil))))) (de_frz (de_lst (da_cons (dc0 C_law_sides hr hgd rfl) da_nil))))) (de_frz (de_callTy c_list rfl T.m_list (by decide +kernel) (da_cons (dc0 C_law_great hr hgd rfl) da_nil)))))) (dg_name (i := 4) SC.nd rfl (by first | exact Or.inl rfl | exact Or.inr rfl))
  (ds_one (ds_if (dt_not (dt_tru (dc C_law_agrees hr hgd rfl (da_cons (dv 4) da_nil))))
  (ds_one (ds_ret de_bl))
  ds_nil)))
  (ds_cons (ds_for PassesOwn.never rfl (di_range1 rfl T.m_range (da_cons de_int da_nil)) (dg_name (i := 5) SC.nd rfl (by first | exact Or.inl rfl | exact Or.inr rfl))
  (ds_cons (ds_set (i := 4) SC.nd rfl (by first | exact Or.inl rfl | exact Or.inr rfl) (dc C_law_small_job hr hgd rfl (da_cons (dv 1) (da_cons de_int (da_cons (de_lst (da_cons de_int (da_cons (de_cmp (o_eq hu64) (dc C_law_draw hr hgd rfl (da_cons (dv 1) (da_cons de_int da_nil))) de_int (nomark _)) da_nil))) da_nil)))))
  (ds_one (ds_if (dt_not (dt_tru (dc C_law_agrees hr hgd rfl (da_cons (dv 4) da_nil))))
  (ds_one (ds_ret de_bl))
  ds_nil))))
  (ds_one (ds_ret de_bl)))))))))
theorem mG_joined_2 (F : FunD K "joined" "joined" (defArgs s_joined) (defBody s_joined) (defScope s_joined) [.bl false] [] f fd) (hm : mg "joined" = some (.ref f)) (D : DFn P w K mg base k f fd P_joined sp) : CalleeG P w K mg base k "joined" 2 [] [(0, 0), (0, 1), (1, 0)] [.bl false] sp :=
  calleeD_of F (by simp) (fun _ _ => by simp [RepL, RepV]) hm D (fun _ _ _ _ _ _ _ us its ws h1 h2 h3 => match us, its, ws, h1, h2, h3 with | [_, _], [_], [], _, _, _ => ⟨_, rfl, rfl⟩)
theorem mG_joined_3 (F : FunD K "joined" "joined" (defArgs s_joined) (defBody s_joined) (defScope s_joined) [.bl false] [] f fd) (hm : mg "joined" = some (.ref f)) (D : DFn P w K mg base k f fd P_joined sp) : CalleeG P w K mg base k "joined" 3 [] [(0, 0), (0, 1), (0, 2)] [.bl false] sp :=
  calleeD_of F (by simp) (fun _ _ => by simp [RepL, RepV]) hm D (fun _ _ _ _ _ _ _ us its ws h1 h2 h3 => match us, its, ws, h1, h2, h3 with | [_, _, _], [_], [], _, _, _ => ⟨_, rfl, rfl⟩)
end
end K22
namespace K22
open PySem L2 Dl K17 K18 K24 K20 K28 K27 K23
open PyProof.Rows
section
variable {P : Program} {w : World} {K : PySem.W.Frag} {h : Heap} {mg : Str → Option Value}
theorem tx_of (X : K.In h) (G : h.Ns mainGlobals mg) (c : SaysX fx fn K) : Tx K mg := ⟨He.free_ok X G (c.fact 28 (f := .free "enumerate") rfl), He.free_ok X G (c.fact 29 (f := .free "int") rfl), He.free_ok X G (c.fact 30 (f := .free "isinstance") rfl), He.free_ok X G (c.fact 31 (f := .free "len") rfl), He.free_ok X G (c.fact 32 (f := .free "list") rfl), He.free_ok X G (c.fact 33 (f := .free "max") rfl), He.free_ok X G (c.fact 34 (f := .free "min") rfl), He.free_ok X G (c.fact 35 (f := .free "range") rfl), He.free_ok X G (c.fact 36 (f := .free "repr") rfl), He.free_ok X G (c.fact 37 (f := .free "sorted") rfl), He.free_ok X G (c.fact 38 (f := .free "sum") rfl), He.free_ok X G (c.fact 39 (f := .free "tuple") rfl), dat_ok X G (c.fact 40 (f := .dat "TICK" (.str "tick")) rfl), dat_ok X G (c.fact 41 (f := .dat "MORE" (.str "more")) rfl), dat_ok X G (c.fact 42 (f := .dat "END" (.str "end")) rfl)⟩
end
theorem noRT0 (ds : List D) (G : GH) (Q : DK) (E : DXK) : ¬ pSp (RT 0) ds G Q E := fun ⟨_, ⟨w, _, _, _, h, _⟩, _⟩ => by cases w <;> simp only [dpW] at h <;> omega
theorem noRX0 (ds : List D) (G : GH) (Q : DK) (E : DXK) : ¬ pSp (RX 0) ds G Q E := fun ⟨_, ⟨w, _, _, _, h, _⟩, _⟩ => by cases w <;> simp only [dpW] at h <;> omega
theorem noRH0 (ds : List D) (G : GH) (Q : DK) (E : DXK) : ¬ pSp (RH 0) ds G Q E := fun ⟨_, ⟨w, s, _, _, _, h, _⟩, _⟩ => by cases w <;> simp only [dpW] at h <;> omega
theorem noEnd0 (ds : List D) (G : GH) (Q : DK) (E : DXK) : ¬ spEnd 0 ds G Q E := fun ⟨w, _, _, _, _, h, _⟩ => by cases w <;> simp only [dpW] at h <;> omega
theorem facts {P : Program} {w : World} {K : PySem.W.Frag} {h : Heap} {mg : Str → Option Value} {f : Addr} (X : K.In h) (G : h.Ns mainGlobals mg) (hfa : mg ("law" : Str) = some (.ref f)) (c : SaysX fx fn K) :
    ∃ fd : FuncData, (∀ (s : Shared) (v : Value), BindsTo s fd ⟨[v], []⟩ [("_law_script", v)]) ∧ ∀ base : Heap, K.In base → base.Ns mainGlobals mg → DFn P w K mg base 228 f fd ["_law_script"] K17.spLaw := by
  have T : Tx K mg := tx_of X G c
  obtain ⟨fd_choices_among, F_choices_among⟩ := c.def_ 0 (d := d_choices_among_) rfl
  have m_choices_among := He.glo_ok X G (c.fact 0 (f := .glo "choices_among") rfl)
  obtain ⟨fd_joined, F_joined⟩ := c.def_ 1 (d := d_joined_) rfl
  have m_joined := He.glo_ok X G (c.fact 1 (f := .glo "joined") rfl)
  obtain ⟨fd_added, F_added⟩ := c.def_ 2 (d := d_added_) rfl
  have m_added := He.glo_ok X G (c.fact 2 (f := .glo "added") rfl)
  obtain ⟨fd_longer, F_longer⟩ := c.def_ 3 (d := d_longer_) rfl
  have m_longer := He.glo_ok X G (c.fact 3 (f := .glo "longer") rfl)
  obtain ⟨fd_round_tables, F_round_tables⟩ := c.def_ 4 (d := d_round_tables_) rfl
  have m_round_tables := He.glo_ok X G (c.fact 4 (f := .glo "round_tables") rfl)
  obtain ⟨fd_length_table, F_length_table⟩ := c.def_ 5 (d := d_length_table_) rfl
  have m_length_table := He.glo_ok X G (c.fact 5 (f := .glo "length_table") rfl)
  obtain ⟨fd_lengths_of, F_lengths_of⟩ := c.def_ 6 (d := d_lengths_of_) rfl
  have m_lengths_of := He.glo_ok X G (c.fact 6 (f := .glo "lengths_of") rfl)
  obtain ⟨fd_how_many_runs, F_how_many_runs⟩ := c.def_ 7 (d := d_how_many_runs_) rfl
  have m_how_many_runs := He.glo_ok X G (c.fact 7 (f := .glo "how_many_runs") rfl)
  obtain ⟨fd_shortest_run, F_shortest_run⟩ := c.def_ 8 (d := d_shortest_run_) rfl
  have m_shortest_run := He.glo_ok X G (c.fact 8 (f := .glo "shortest_run") rfl)
  obtain ⟨fd_law_feed, F_law_feed⟩ := c.def_ 9 (d := d_law_feed_) rfl
  have m_law_feed := He.glo_ok X G (c.fact 9 (f := .glo "_law_feed") rfl)
  obtain ⟨fd_law_draw, F_law_draw⟩ := c.def_ 10 (d := d_law_draw_) rfl
  have m_law_draw := He.glo_ok X G (c.fact 10 (f := .glo "_law_draw") rfl)
  obtain ⟨fd_law_tidy, F_law_tidy⟩ := c.def_ 11 (d := d_law_tidy_) rfl
  have m_law_tidy := He.glo_ok X G (c.fact 11 (f := .glo "_law_tidy") rfl)
  obtain ⟨fd_law_next, F_law_next⟩ := c.def_ 12 (d := d_law_next_) rfl
  have m_law_next := He.glo_ok X G (c.fact 12 (f := .glo "_law_next") rfl)
  obtain ⟨fd_law_behind, F_law_behind⟩ := c.def_ 13 (d := d_law_behind_) rfl
  have m_law_behind := He.glo_ok X G (c.fact 13 (f := .glo "_law_behind") rfl)
  obtain ⟨fd_law_after, F_law_after⟩ := c.def_ 14 (d := d_law_after_) rfl
  have m_law_after := He.glo_ok X G (c.fact 14 (f := .glo "_law_after") rfl)
  obtain ⟨fd_law_is_tick, F_law_is_tick⟩ := c.def_ 15 (d := d_law_is_tick_) rfl
  have m_law_is_tick := He.glo_ok X G (c.fact 15 (f := .glo "_law_is_tick") rfl)
  obtain ⟨fd_law_end, F_law_end⟩ := c.def_ 16 (d := d_law_end_) rfl
  have m_law_end := He.glo_ok X G (c.fact 16 (f := .glo "_law_end") rfl)
  obtain ⟨fd_law_rounds, F_law_rounds⟩ := c.def_ 17 (d := d_law_rounds_) rfl
  have m_law_rounds := He.glo_ok X G (c.fact 17 (f := .glo "_law_rounds") rfl)
  obtain ⟨fd_law_job, F_law_job⟩ := c.def_ 18 (d := d_law_job_) rfl
  have m_law_job := He.glo_ok X G (c.fact 18 (f := .glo "_law_job") rfl)
  obtain ⟨fd_law_sides, F_law_sides⟩ := c.def_ 19 (d := d_law_sides_) rfl
  have m_law_sides := He.glo_ok X G (c.fact 19 (f := .glo "_law_sides") rfl)
  obtain ⟨fd_law_great, F_law_great⟩ := c.def_ 20 (d := d_law_great_) rfl
  have m_law_great := He.glo_ok X G (c.fact 20 (f := .glo "_law_great") rfl)
  obtain ⟨fd_law_lengths, F_law_lengths⟩ := c.def_ 21 (d := d_law_lengths_) rfl
  have m_law_lengths := He.glo_ok X G (c.fact 21 (f := .glo "_law_lengths") rfl)
  obtain ⟨fd_law_shortest, F_law_shortest⟩ := c.def_ 22 (d := d_law_shortest_) rfl
  have m_law_shortest := He.glo_ok X G (c.fact 22 (f := .glo "_law_shortest") rfl)
  obtain ⟨fd_law_is_small, F_law_is_small⟩ := c.def_ 23 (d := d_law_is_small_) rfl
  have m_law_is_small := He.glo_ok X G (c.fact 23 (f := .glo "_law_is_small") rfl)
  obtain ⟨fd_law_small_job, F_law_small_job⟩ := c.def_ 24 (d := d_law_small_job_) rfl
  have m_law_small_job := He.glo_ok X G (c.fact 24 (f := .glo "_law_small_job") rfl)
  obtain ⟨fd_law_broad, F_law_broad⟩ := c.def_ 25 (d := d_law_broad_) rfl
  have m_law_broad := He.glo_ok X G (c.fact 25 (f := .glo "_law_broad") rfl)
  obtain ⟨fd_law_agrees, F_law_agrees⟩ := c.def_ 26 (d := d_law_agrees_) rfl
  have m_law_agrees := He.glo_ok X G (c.fact 26 (f := .glo "_law_agrees") rfl)
  obtain ⟨fd_law, F_law⟩ := c.def_ 27 (d := d_law_) rfl
  have m_law := He.glo_ok X G (c.fact 27 (f := .glo "law") rfl)
  have e := hfa.symm.trans m_law
  cases e
  have b := FunD.bindsA (ps := ["_law_script"]) F_law fun _ _ _ _ _ _ us hl => match us, hl with | [_], _ => rfl
  refine ⟨fd_law, fun s v => b s [v] rfl, fun base _ _ => ?_⟩
  clear X G c hfa
  have C_shortest_run : ∀ n, n ≤ 60 → Callee P w K mg base (n + 0) "shortest_run" P_shortest_run (pSp (RSh n)) := by
    intro n
    induction n with
    | zero => exact fun _ => (z_shortest_run F_shortest_run m_shortest_run noRSh0).up (by omega)
    | succ n ih => exact fun hn => k_shortest_run T (ih (by omega)) F_shortest_run m_shortest_run (fun _ _ _ _ h => by rcases h with ⟨_, ⟨_, rfl, _⟩, _⟩ <;> rfl) (K27.shortest_run_rd)
  have C_longer := k_longer (P := P) (w := w) (base := base) (k := 0) T  F_longer m_longer (fun _ _ _ _ h => by rcases h with ⟨_, _, _, _, rfl, _⟩ <;> rfl) longer_rd
  have C_added := k_added (P := P) (w := w) (base := base) (k := 0) T  F_added m_added (fun _ _ _ _ h => by rcases h with ⟨_, _, rfl, _⟩ <;> rfl) added_rd
  have C_choices_among := k_choices_among (P := P) (w := w) (base := base) (k := 0) T  F_choices_among m_choices_among (fun _ _ _ _ h => by rcases h with ⟨_, ⟨_, _, rfl, _⟩, _⟩ <;> rfl) choices_among_rd
  have D_joined := d_joined (P := P) (w := w) (base := base) (k := 1) T (C_choices_among.up (by omega)) F_joined (fun _ _ _ _ h => by rcases h with ⟨_, _, _, _, _, _, rfl, _⟩ <;> rfl) joined_rd
  have G_joined_2 := mG_joined_2 F_joined m_joined D_joined
  have G_joined_3 := mG_joined_3 F_joined m_joined D_joined
  have C_round_tables := k_round_tables (P := P) (w := w) (base := base) (k := 2) T (G_joined_2.up (by omega)) F_round_tables m_round_tables (fun _ _ _ _ h => by rcases h with ⟨_, _, _, _, _, rfl, _⟩ <;> rfl) round_tables_rd
  have C_length_table : ∀ n, n ≤ 60 → Callee P w K mg base (n + 5) "length_table" P_length_table (spLT n) := by
    intro n
    induction n with
    | zero => exact fun _ => (z_length_table F_length_table m_length_table noLT0).up (by omega)
    | succ n ih => exact fun hn => k_length_table T (ih (by omega)) (C_longer.up (by omega)) (C_added.up (by omega)) (C_round_tables.up (by omega)) (G_joined_2.up (by omega)) (G_joined_3.up (by omega)) F_length_table m_length_table (fun _ _ _ _ h => by rcases h with ⟨_, rfl, _⟩ <;> rfl) (length_table_rd)
  have C_lengths_of := k_lengths_of (P := P) (w := w) (base := base) (k := 35) T ((C_length_table 30 (by decide)).up (by omega)) F_lengths_of m_lengths_of (fun _ _ _ _ h => by rcases h with ⟨_, rfl, _⟩ <;> rfl) lengths_of_rd
  have C_how_many_runs := k_how_many_runs (P := P) (w := w) (base := base) (k := 36) T (C_lengths_of.up (by omega)) F_how_many_runs m_how_many_runs (fun _ _ _ _ h => by rcases h with ⟨_, rfl, _⟩ <;> rfl) how_many_runs_rd
  have C_law_next : ∀ n, n ≤ 56 → Callee P w K mg base (n + 0) "_law_next" P_law_next (pSp (RX n)) := by
    intro n
    induction n with
    | zero => exact fun _ => (z_law_next F_law_next m_law_next noRX0).up (by omega)
    | succ n ih => exact fun hn => k_law_next T (ih (by omega)) F_law_next m_law_next (fun _ _ _ _ h => by rcases h with ⟨_, ⟨_, rfl, _⟩, _⟩ <;> rfl) (law_next_rd hn)
  have C_law_tidy : ∀ n, n ≤ 60 → Callee P w K mg base (n + 0) "_law_tidy" P_law_tidy (pSp (RT n)) := by
    intro n
    induction n with
    | zero => exact fun _ => (z_law_tidy F_law_tidy m_law_tidy noRT0).up (by omega)
    | succ n ih => exact fun hn => k_law_tidy T (ih (by omega)) F_law_tidy m_law_tidy (fun _ _ _ _ h => by rcases h with ⟨_, ⟨_, rfl, _⟩, _⟩ <;> rfl) (law_tidy_rd hn)
  have C_law_behind : ∀ n, n ≤ 56 → Callee P w K mg base (n + 0) "_law_behind" P_law_behind (pSp (RH n)) := by
    intro n
    induction n with
    | zero => exact fun _ => (z_law_behind F_law_behind m_law_behind noRH0).up (by omega)
    | succ n ih => exact fun hn => k_law_behind T (ih (by omega)) F_law_behind m_law_behind (fun _ _ _ _ h => by rcases h with ⟨_, ⟨_, _, rfl, _⟩, _⟩ <;> rfl) (law_behind_rd hn)
  have C_law_after := k_law_after (P := P) (w := w) (base := base) (k := 60) T ((C_law_tidy 60 (by decide)).up (by omega)) ((C_law_behind 56 (by decide)).up (by omega)) F_law_after m_law_after (fun _ _ _ _ h => by rcases h with ⟨_, ⟨_, _, rfl, _⟩, _⟩ <;> rfl) law_after_rd
  have C_law_lengths : ∀ n, n ≤ 164 → Callee P w K mg base (n + 62) "_law_lengths" P_law_lengths (spLen n) := by
    intro n
    induction n with
    | zero => exact fun _ => (z_law_lengths F_law_lengths m_law_lengths noLen0).up (by omega)
    | succ n ih => exact fun hn => k_law_lengths T ((C_law_next 56 (by decide)).up (by omega)) (ih (by omega)) (C_law_after.up (by omega)) F_law_lengths m_law_lengths (fun _ _ _ _ h => by rcases h with ⟨_, _, rfl, _⟩ <;> rfl) (law_lengths_rd)
  have C_law_shortest := k_law_shortest (P := P) (w := w) (base := base) (k := 225) T ((C_law_next 56 (by decide)).up (by omega)) (C_law_after.up (by omega)) ((C_law_lengths 163 (by decide)).up (by omega)) ((C_law_tidy 60 (by decide)).up (by omega)) F_law_shortest m_law_shortest (fun _ _ _ _ h => by rcases h with ⟨_, rfl, _⟩ <;> rfl) law_shortest_rd
  have C_law_agrees := k_law_agrees (P := P) (w := w) (base := base) (k := 226) T ((C_shortest_run 30 (by decide)).up (by omega)) (C_how_many_runs.up (by omega)) (C_lengths_of.up (by omega)) (C_law_shortest.up (by omega)) ((C_law_lengths 163 (by decide)).up (by omega)) ((C_law_tidy 60 (by decide)).up (by omega)) F_law_agrees m_law_agrees (fun _ _ _ _ h => by rcases h with ⟨_, rfl, _⟩ <;> rfl) law_agrees_rd
  have C_law_end : ∀ n, n ≤ 60 → Callee P w K mg base (n + 0) "_law_end" P_law_end (spEnd n) := by
    intro n
    induction n with
    | zero => exact fun _ => (z_law_end F_law_end m_law_end noEnd0).up (by omega)
    | succ n ih => exact fun hn => k_law_end T (ih (by omega)) F_law_end m_law_end (fun _ _ _ _ h => by rcases h with ⟨_, _, rfl, _⟩ <;> rfl) (law_end_rd)
  have C_law_is_tick : ∀ n, n ≤ 60 → Callee P w K mg base (n + 0) "_law_is_tick" P_law_is_tick (pSp (RIt n)) := by
    intro n
    induction n with
    | zero => exact fun _ => (z_law_is_tick F_law_is_tick m_law_is_tick K23.noRIt0).up (by omega)
    | succ n ih => exact fun hn => k_law_is_tick T (ih (by omega)) F_law_is_tick m_law_is_tick (fun _ _ _ _ h => by rcases h with ⟨_, ⟨_, rfl, _⟩, _⟩ <;> rfl) (K24.law_is_tick_rd)
  have C_law_is_small := k_law_is_small (P := P) (w := w) (base := base) (k := 61) T ((C_law_end 30 (by decide)).up (by omega)) ((C_law_next 56 (by decide)).up (by omega)) (C_law_after.up (by omega)) ((C_law_is_tick 40 (by decide)).up (by omega)) ((C_law_tidy 60 (by decide)).up (by omega)) F_law_is_small m_law_is_small (fun _ _ _ _ h => by rcases h with ⟨_, rfl, _⟩ <;> rfl) K23.law_is_small_rd
  have C_law_rounds := k_law_rounds (P := P) (w := w) (base := base) (k := 0) T  F_law_rounds m_law_rounds (fun _ _ _ _ h => by rcases h with ⟨_, ⟨rfl, _⟩, _⟩ <;> rfl) law_rounds_rd
  have C_law_draw := k_law_draw (P := P) (w := w) (base := base) (k := 0) T  F_law_draw m_law_draw (fun _ _ _ _ h => by rcases h with ⟨_, _, rfl, _⟩ <;> rfl) law_draw_rd
  have C_law_job : ∀ n, n ≤ 4 → Callee P w K mg base (n + 1) "_law_job" P_law_job (KJ.spJob JL n) := by
    intro n
    induction n with
    | zero => exact fun _ => (z_law_job F_law_job m_law_job noJobL0).up (by omega)
    | succ n ih => exact fun hn => k_law_job T (C_law_draw.up (by omega)) (ih (by omega)) F_law_job m_law_job (fun _ _ _ _ h => by rcases h with ⟨_, _, _, rfl, _⟩ <;> rfl) (KJ.law_job_rd jl_cl)
  have C_law_small_job := k_law_small_job (P := P) (w := w) (base := base) (k := 62) T (C_law_is_small.up (by omega)) (C_law_rounds.up (by omega)) (C_law_draw.up (by omega)) ((C_law_job 4 (by decide)).up (by omega)) F_law_small_job m_law_small_job (fun _ _ _ _ h => by rcases h with ⟨_, _, rfl, _⟩ <;> rfl) law_small_job_rd
  have C_law_broad := k_law_broad (P := P) (w := w) (base := base) (k := 0) T  F_law_broad m_law_broad (fun _ _ _ _ h => by rcases h with ⟨_, ⟨rfl, _⟩, _⟩ <;> rfl) law_broad_rd
  have C_law_sides := k_law_sides (P := P) (w := w) (base := base) (k := 0) T  F_law_sides m_law_sides (fun _ _ _ _ h => by rcases h with ⟨_, ⟨rfl, _⟩, _⟩ <;> rfl) law_sides_rd
  have C_law_great := k_law_great (P := P) (w := w) (base := base) (k := 0) T  F_law_great m_law_great (fun _ _ _ _ h => by rcases h with ⟨_, ⟨rfl, _⟩, _⟩ <;> rfl) law_great_rd
  have C_law_feed := k_law_feed (P := P) (w := w) (base := base) (k := 0) T  F_law_feed m_law_feed (fun _ _ _ _ h => by rcases h with ⟨_, rfl, _⟩ <;> rfl) law_feed_rd
  exact dfn_of (k := 227) F_law sc_law (fun _ _ _ _ h => by rcases h with ⟨_, rfl, _⟩ <;> rfl) (b_law T (C_law_agrees.up (by omega)) (C_law_small_job.up (by omega)) (C_law_draw.up (by omega)) (C_law_rounds.up (by omega)) (C_law_broad.up (by omega)) (C_law_sides.up (by omega)) (C_law_great.up (by omega)) ((C_shortest_run 30 (by decide)).up (by omega)) (C_how_many_runs.up (by omega)) (C_lengths_of.up (by omega)) (C_law_feed.up (by omega))) law_rd
end K22
theorem PySem.Challenge.cw_honestbars_k22_runs_counted_holds : PySem.Challenge.rw_honestbars_k22_runs_counted.Holds :=
  K22.head_of (sp := K17.spLaw) (fun ns hl => ⟨ns, rfl, fun _ => rfl⟩) fun w mg fa h K KX c G hmg => K22.facts KX G hmg c
