import PyProof.Rows.All
import Wide.All
import OpenK.AllK
import Wide.FinOn
import HandS.ForMost
import HandS.ForExc
import HandS.HeadHook1
import HandS.Slots
import HandS.Defaults
import HandS.TupAny
import HandS.TupMul
import HandS.Wide
import HandS.Style
import HandS.Star
import HandS.IsInst
import HandS.Flow
import HandS.Conv
import KE.GoesEnum
import HandS.Head0
import HandS.Head1
import HandS.Head2
import HandS.HeadEnd
import HandS.HeadHook2
import KE.KExcSuper
import HandS.ExcInit
import HandS.Nested
import HandS.Lambda
import HandS.ExcIs
import HandS.ExcField
import KE.KExcIs
import KE.DataAny
import HandS.HeadHook4
import HandS.EndTab
import HandS.NestedK
import KE.KRevSl
import HandS.Strs
import HandS.SetBool
import HandS.SetFor
import PyProof.ListNew
import HandS.SortInts
import HandS.GenList
import KE.DataEq
import HandS.TupLe
import KE.LtData
import KE.KSortTup
import HandS.SortRule
import KE.KDictList
import HandS.HeadHook3
import KE.GoesMore
import HandS.Zip
import HandS.SlotsOwn
import HandS.Property
import HandS.MakeKw
import HandS.NamedTupGet
import HandS.HotCalls
import HandS.BytesMake
import HandS.Bytes
import HandS.ToBytes
import HandS.TupSets
import HandS.DictTup
import KE.KDictWalk
import KE.KeyNested
import PyProof.DictFindH
import HandS.DictComp
import KE.KDictCopyH
import PySem.Challenge.RW_honestbars_k13_whole_orders_and_bytes
set_option Elab.async false
set_option linter.all false
set_option maxRecDepth 100000
set_option maxHeartbeats 0
namespace Dl
open PySem L2

inductive D where
  | non
  | bl (b : Bool)
  | int (i : Int)
  | str (x : Str)
  | byt (b : Array UInt8)
  | tup (xs : List D)
  | lst (xs : List D)
  | ref (a : Addr)
  /-- the script: a list of ints that is read alone -/
  | scr (ns : List Int)
  /-- a lambda, by what is true of its object and its code object (of the name q); n0, H0: what stood when it was handed on -/
  | fn (q : Str) (φ : Addr → Addr → Heap → Prop) (n0 : Addr → Prop) (H0 : Hp)
  /-- an exception at a that is handled: of the class of the name c, its fields at d -/
  | exh (a : Addr) (c : Str) (d : Addr) (ns : List Str) (vs : List D)

inductive DO where
  | lst (xs : List D)
  | dct (kvs : List (Key × D))
  | raw (o : HO)
  /-- an instance of the class of that name, its attributes -/
  | ins (c : Str) (fs : List (Str × D))
  /-- a dict whose keys are tuples of ints and texts -/
  | dtp (kvs : List (List Key × D))
  /-- a table of code objects of the name q -/
  | tab (q : Str)
  /-- an instance with slots of the class of the name c -/
  | slt (c : Str) (vs : List (Option D))

abbrev GH := Addr → Option DO
def updG (G : GH) (a : Addr) (o : DO) : GH := fun b => if b = a then some o else G b
def dropG (G : GH) (a : Addr) : GH := fun b => if b = a then none else G b
theorem updG_same {G : GH} {a : Addr} {o : DO} : updG G a o a = some o := by unfold updG; rw [if_pos rfl]
theorem updG_ne {G : GH} {a b : Addr} {o : DO} (h : b ≠ a) : updG G a o b = G b := by unfold updG; rw [if_neg h]
theorem dropG_same {G : GH} {a : Addr} : dropG G a a = none := by unfold dropG; rw [if_pos rfl]
theorem dropG_ne {G : GH} {a b : Addr} (h : b ≠ a) : dropG G a b = G b := by unfold dropG; rw [if_neg h]
theorem updG_updG {G : GH} {a : Addr} {o u : DO} : updG (updG G a o) a u = updG G a u := by
  funext b; unfold updG; split <;> rfl
theorem dropG_updG {G : GH} {a : Addr} {o : DO} (h : G a = none) : dropG (updG G a o) a = G := by
  funext b
  by_cases e : b = a
  · subst e; rw [dropG_same, h]
  · rw [dropG_ne e, updG_ne e]
def kempB (K : PySem.W.Frag) : Bool := K.any fun p => match p.2 with
  | ⟨.type c, _, .seq its _, _⟩ => decide (c = "tuple") && (match its.toList with
    | .str x _ :: _ => decide (x = ("row" : Str))
    | _ => false)
  | _ => false
def TupAt (K : PySem.W.Frag) (G : GH) (H : Hp) (a : Addr) (xs : List V) : Prop := (G a = none ∧ H a = some (.tup xs)) ∨
  (xs = [] → kempB K = true) ∧ ∃ (o : Obj) (its : Array Value) (n : Nat), K.lookup a = some o ∧ o.cls = .type "tuple" ∧ o.data = .seq its n ∧ its.size ≤ sizeLine ∧ Vals xs its.toList
def LstAt (G : GH) (H : Hp) (a : Addr) (xs : List V) : Prop := G a = none ∧ H a = some (.lst xs)
theorem TupAt.sq {K : PySem.W.Frag} {G : GH} {H : Hp} {a : Addr} {xs : List V} (h : TupAt K G H a xs) : SqT K H a xs := h.elim (fun h => .inl (.inl h.2)) (fun h => .inr h.2)
theorem LstAt.sq {K : PySem.W.Frag} {G : GH} {H : Hp} {a : Addr} {xs : List V} (h : LstAt G H a xs) : SqL K H a xs := SqL.of h.2
def ScrAt (K : PySem.W.Frag) (G : GH) (H : Hp) (a : Addr) (xs : List V) : Prop := (G a = none ∧ Rd H a (.lst xs)) ∨
  ∃ (o : Obj) (its : Array Value) (n : Nat), K.lookup a = some o ∧ o.cls = .type "list" ∧ o.dict = none ∧ o.data = .seq its n ∧ its.size ≤ sizeLine ∧ Vals xs its.toList
theorem ScrAt.sq {K : PySem.W.Frag} {G : GH} {H : Hp} {a : Addr} {xs : List V} (h : ScrAt K G H a xs) : SqL K H a xs := h.elim (fun h => .inl h.2) .inr
def CodeQ (c : Addr) (q : Str) : HO := .ext fun h => ∃ (oc : Obj) (vs : Array Value) (t : Tok), h.get? c = some oc ∧ oc.data = .fields vs ∧ vs[1]? = some (.str q t)
mutual
def RepV (K : PySem.W.Frag) (G : GH) (H : Hp) : D → V → Prop
  | .non, v => v = .non
  | .bl b, v => v = .bl b
  | .int i, v => v = .int i
  | .str x, v => v = .str x
  | .byt x, v => v = .byt x
  | .tup ds, v => ∃ a xs, v = .ref a ∧ TupAt K G H a xs ∧ RepL K G H ds xs
  | .lst ds, v => ∃ a xs, v = .ref a ∧ LstAt G H a xs ∧ RepL K G H ds xs
  | .ref a, v => v = .ref a
  | .scr ns, v => ∃ a, v = .ref a ∧ ScrAt K G H a (ns.map V.int)
  | .fn q φ n0 H0, v => ∃ a c, v = .ref a ∧ G a = none ∧ H a = some (.ext (φ a c)) ∧ G c = none ∧ H c = some (CodeQ c q) ∧ ∀ b o, H0 b = some o → (∃ o', H b = some o') ∧ (n0 b → G b = none ∧ H b = some o)
  | .exh a c d ns ds, v => ∃ ws : List (Str × V), v = .ref a ∧ G d = none ∧ H d = some (.xd ws) ∧ ws.map (·.1) = ns ∧ RepL K G H ds (ws.map (·.2))
def RepL (K : PySem.W.Frag) (G : GH) (H : Hp) : List D → List V → Prop
  | [], xs => xs = []
  | d :: ds, xs => ∃ x r, xs = x :: r ∧ RepV K G H d x ∧ RepL K G H ds r
end

def Ext (G : GH) (H : Hp) (G' : GH) (H' : Hp) : Prop := ∀ a o, H a = some o → (∃ o', H' a = some o') ∧ (G a = none → G' a = none ∧ H' a = some o)
theorem Ext.refl (G : GH) (H : Hp) : Ext G H G H := fun a o h => ⟨⟨o, h⟩, fun g => ⟨g, h⟩⟩
theorem Ext.trans {G G1 G2 : GH} {H H1 H2 : Hp} (a : Ext G H G1 H1) (b : Ext G1 H1 G2 H2) : Ext G H G2 H2 := fun x o h => by
  obtain ⟨⟨o1, h1⟩, k⟩ := a x o h
  obtain ⟨⟨o2, h2⟩, _⟩ := b x o1 h1
  refine ⟨⟨o2, h2⟩, fun g => ?_⟩
  obtain ⟨g1, e1⟩ := k g
  exact (b x o e1).2 g1
theorem Ext.new {G : GH} {H : Hp} {p : Addr} {o : HO} (h : H p = none) : Ext G H G (upd H p o) := fun a u e => by
  have n : a ≠ p := ne_of_none e h
  rw [upd_ne n]
  exact ⟨⟨u, e⟩, fun g => ⟨g, e⟩⟩
theorem Ext.newG {G : GH} {H : Hp} {p : Addr} {o : HO} {u : DO} (h : H p = none) : Ext G H (updG G p u) (upd H p o) := fun a v e => by
  have n : a ≠ p := ne_of_none e h
  rw [upd_ne n, updG_ne n]
  exact ⟨⟨v, e⟩, fun g => ⟨g, e⟩⟩
theorem Ext.write {G : GH} {H : Hp} {p : Addr} {o : HO} {u w : DO} (h : G p = some w) : Ext G H (updG G p u) (upd H p o) := fun a v e => by
  by_cases n : a = p
  · subst n
    refine ⟨⟨_, upd_same⟩, fun g => ?_⟩
    rw [h] at g; cases g
  · rw [upd_ne n, updG_ne n]
    exact ⟨⟨v, e⟩, fun g => ⟨g, e⟩⟩
theorem Ext.drop {G : GH} {H : Hp} {p : Addr} : Ext G H (dropG G p) H := fun a v e => by
  refine ⟨⟨v, e⟩, fun g => ⟨?_, e⟩⟩
  by_cases n : a = p
  · subst n; exact dropG_same
  · rw [dropG_ne n]; exact g

def TabD (G : GH) (H : Hp) (a : Addr) (q : Str) : Prop :=
  ∃ ps : Array Value, H a = some (.tbl ps) ∧ TriplesOk ps.toList ∧ ∀ (pos : Pos) (cv : Value), codeAmong pos ps.toList = some cv → ∃ c, cv = .ref c ∧ G c = none ∧ H c = some (CodeQ c q)
def RepO (K : PySem.W.Frag) (G : GH) (H : Hp) (vs : List (Option D)) (ws : List (Option V)) : Prop := vs.length = ws.length ∧ ∀ (i : Nat) (d : D), vs[i]? = some (some d) → ∃ v, ws[i]? = some (some v) ∧ RepV K G H d v
def SltD (K : PySem.W.Frag) (G : GH) (H : Hp) (a : Addr) (c : Str) (vs : List (Option D)) : Prop := ∃ (dx : Addr) (ws : List (Option V)), G dx = none ∧ H a = some (SlX.SlO a (He.ga K c) dx ws) ∧ H dx = some (.xd []) ∧ RepO K G H vs ws
def DOk (K : PySem.W.Frag) (G : GH) (H : Hp) (a : Addr) : DO → Prop
  | .lst ds => ∃ xs, H a = some (.lst xs) ∧ RepL K G H ds xs
  | .dct kvs => ∃ ws : List (Key × V), H a = some (.dK ws) ∧ ws.map (·.1) = kvs.map (·.1) ∧ RepL K G H (kvs.map (·.2)) (ws.map (·.2))
  | .raw o => H a = some o
  | .ins c fs => ∃ (dx : Addr) (ws : List (Str × V)), H a = some (.ins (He.ga K c) dx ws) ∧ ws.map (·.1) = fs.map (·.1) ∧ RepL K G H (fs.map (·.2)) (ws.map (·.2))
  | .dtp kvs => ∃ ws : List (List Key × V), H a = some (.dT ws) ∧ ws.map (·.1) = kvs.map (·.1) ∧ RepL K G H (kvs.map (·.2)) (ws.map (·.2))
  | .tab q => TabD G H a q
  | .slt c vs => SltD K G H a c vs
def GOk (K : PySem.W.Frag) (G : GH) (H : Hp) : Prop := ∀ a o, G a = some o → DOk K G H a o
theorem DOk.there {K : PySem.W.Frag} {G : GH} {H : Hp} {a : Addr} {o : DO} (h : DOk K G H a o) : ∃ u, H a = some u := by
  cases o with
  | lst ds => obtain ⟨xs, e, _⟩ := h; exact ⟨_, e⟩
  | dct kvs => obtain ⟨xs, e, _⟩ := h; exact ⟨_, e⟩
  | dtp kvs => obtain ⟨xs, e, _⟩ := h; exact ⟨_, e⟩
  | raw u => exact ⟨u, h⟩
  | ins c fs => obtain ⟨dx, xs, e, _⟩ := h; exact ⟨_, e⟩
  | tab q => obtain ⟨ps, e, _⟩ := h; exact ⟨_, e⟩
  | slt c vs => obtain ⟨dx, ws, _, e, _⟩ := h; exact ⟨_, e⟩
theorem GOk.fresh {K : PySem.W.Frag} {G : GH} {H : Hp} (g : GOk K G H) {p : Addr} (h : H p = none) : G p = none := by
  cases q : G p with
  | none => rfl
  | some o =>
    obtain ⟨u, e⟩ := (g p o q).there
    rw [h] at e; cases e

section
variable {K : PySem.W.Frag} {G G' : GH} {H H' : Hp}
theorem TabD.ext (e : Ext G H G' H') {a : Addr} {q : Str} (h : TabD G H a q) (ha : H' a = H a) : TabD G' H' a q := by
  obtain ⟨ps, h1, h2, h3⟩ := h
  refine ⟨ps, ha.trans h1, h2, fun pos cv hc => ?_⟩
  obtain ⟨c, e1, g, e2⟩ := h3 pos cv hc
  exact ⟨c, e1, (e _ _ e2).2 g⟩
theorem TupAt.ext (e : Ext G H G' H') {a : Addr} {xs : List V} (h : TupAt K G H a xs) : TupAt K G' H' a xs := by
  rcases h with ⟨g, h⟩ | h
  · exact .inl (((e _ _ h).2 g))
  · exact .inr h
theorem ScrAt.ext (e : Ext G H G' H') {a : Addr} {xs : List V} (h : ScrAt K G H a xs) : ScrAt K G' H' a xs := by
  rcases h with ⟨g, h | ⟨o, h⟩⟩ | h
  · exact .inl ⟨((e _ _ h).2 g).1, .inl ((e _ _ h).2 g).2⟩
  · exact .inl ⟨((e _ _ h).2 g).1, .inr ⟨o, ((e _ _ h).2 g).2⟩⟩
  · exact .inr h
theorem LstAt.ext (e : Ext G H G' H') {a : Addr} {xs : List V} (h : LstAt G H a xs) : LstAt G' H' a xs := (e _ _ h.2).2 h.1
mutual
theorem RepV.ext (e : Ext G H G' H') : ∀ {d : D} {v : V}, RepV K G H d v → RepV K G' H' d v
  | .non, _, h => h
  | .bl _, _, h => h
  | .int _, _, h => h
  | .str _, _, h => h
  | .byt _, _, h => h
  | .tup _, _, h => by
    unfold RepV at h ⊢
    obtain ⟨a, xs, ev, t, r⟩ := h
    exact ⟨a, xs, ev, t.ext e, r.ext e⟩
  | .lst _, _, h => by
    unfold RepV at h ⊢
    obtain ⟨a, xs, ev, t, r⟩ := h
    exact ⟨a, xs, ev, t.ext e, r.ext e⟩
  | .ref _, _, h => h
  | .scr _, _, h => by
    unfold RepV at h ⊢
    obtain ⟨a, ev, t⟩ := h
    exact ⟨a, ev, t.ext e⟩
  | .fn _ _ _ _, _, h => by
    unfold RepV at h ⊢
    obtain ⟨a, c, ev, g, t, g2, t2, k⟩ := h
    refine ⟨a, c, ev, ((e _ _ t).2 g).1, ((e _ _ t).2 g).2, ((e _ _ t2).2 g2).1, ((e _ _ t2).2 g2).2, fun b o z => ?_⟩
    obtain ⟨⟨o1, h1⟩, h2⟩ := k b o z
    exact ⟨(e b o1 h1).1, fun n => (e b o (h2 n).2).2 (h2 n).1⟩
  | .exh _ _ _ _ _, _, h => by
    unfold RepV at h ⊢
    obtain ⟨ws, ev, g, t, n, r⟩ := h
    exact ⟨ws, ev, ((e _ _ t).2 g).1, ((e _ _ t).2 g).2, n, r.ext e⟩
theorem RepL.ext (e : Ext G H G' H') : ∀ {ds : List D} {xs : List V}, RepL K G H ds xs → RepL K G' H' ds xs
  | [], _, h => h
  | _ :: _, _, h => by
    unfold RepL at h ⊢
    obtain ⟨x, r, ev, h1, h2⟩ := h
    exact ⟨x, r, ev, h1.ext e, h2.ext e⟩
end
theorem RepO.ext (e : Ext G H G' H') {vs : List (Option D)} {ws : List (Option V)} (h : RepO K G H vs ws) : RepO K G' H' vs ws := ⟨h.1, fun i d q => by obtain ⟨v, h1, h2⟩ := h.2 i d q; exact ⟨v, h1, h2.ext e⟩⟩
theorem SltD.ext (e : Ext G H G' H') {a : Addr} {c : Str} {vs : List (Option D)} (h : SltD K G H a c vs) (ha : H' a = H a) : SltD K G' H' a c vs := by
  obtain ⟨dx, ws, g, h1, h2, r⟩ := h
  obtain ⟨g', e'⟩ := (e _ _ h2).2 g
  exact ⟨dx, ws, g', by rw [ha]; exact h1, e', r.ext e⟩
theorem RepL.length : ∀ {ds : List D} {xs : List V}, RepL K G H ds xs → xs.length = ds.length
  | [], _, h => by unfold RepL at h; rw [h]; rfl
  | _ :: ds, _, h => by
    unfold RepL at h
    obtain ⟨x, r, rfl, _, h2⟩ := h
    simp [RepL.length h2]
theorem repL_nil : RepL K G H [] [] := by unfold RepL; rfl
theorem repL_cons {d : D} {ds : List D} {x : V} {xs : List V} (h : RepV K G H d x) (r : RepL K G H ds xs) : RepL K G H (d :: ds) (x :: xs) := by
  unfold RepL; exact ⟨x, xs, rfl, h, r⟩
theorem repL_one {d : D} {x : V} (h : RepV K G H d x) : RepL K G H [d] [x] := repL_cons h repL_nil
theorem RepL.append : ∀ {ds es : List D} {xs ys : List V}, RepL K G H ds xs → RepL K G H es ys → RepL K G H (ds ++ es) (xs ++ ys)
  | [], _, _, _, h, r => by unfold RepL at h; subst h; exact r
  | _ :: _, _, _, _, h, r => by
    unfold RepL at h
    obtain ⟨x, t, rfl, h1, h2⟩ := h
    exact repL_cons h1 (RepL.append h2 r)
theorem RepL.get : ∀ {ds : List D} {xs : List V} {i : Nat} {d : D}, RepL K G H ds xs → ds[i]? = some d → ∃ x, xs[i]? = some x ∧ RepV K G H d x
  | [], _, _, _, _, e => by simp at e
  | _ :: _, _, 0, _, h, e => by
    unfold RepL at h
    obtain ⟨x, t, rfl, h1, h2⟩ := h
    simp at e; subst e
    exact ⟨x, rfl, h1⟩
  | _ :: ds, _, i + 1, d, h, e => by
    unfold RepL at h
    obtain ⟨x, t, rfl, h1, h2⟩ := h
    obtain ⟨y, e1, e2⟩ := RepL.get (i := i) (d := d) h2 (by simpa using e)
    exact ⟨y, by simpa using e1, e2⟩
theorem RepL.take : ∀ {ds : List D} {xs : List V} (n : Nat), RepL K G H ds xs → RepL K G H (ds.take n) (xs.take n)
  | _, _, 0, _ => by simp [repL_nil]
  | [], _, _ + 1, h => by unfold RepL at h; subst h; simp [repL_nil]
  | _ :: _, _, n + 1, h => by
    unfold RepL at h
    obtain ⟨x, t, rfl, h1, h2⟩ := h
    exact repL_cons h1 (RepL.take n h2)
theorem RepL.drop : ∀ {ds : List D} {xs : List V} (n : Nat), RepL K G H ds xs → RepL K G H (ds.drop n) (xs.drop n)
  | _, _, 0, h => by simpa using h
  | [], _, _ + 1, h => by unfold RepL at h; subst h; simp [repL_nil]
  | _ :: _, _, n + 1, h => by
    unfold RepL at h
    obtain ⟨x, t, rfl, h1, h2⟩ := h
    exact RepL.drop n h2
theorem RepL.reverse : ∀ {ds : List D} {xs : List V}, RepL K G H ds xs → RepL K G H ds.reverse xs.reverse
  | [], _, h => by unfold RepL at h; subst h; simp [repL_nil]
  | _ :: _, _, h => by
    unfold RepL at h
    obtain ⟨x, t, rfl, h1, h2⟩ := h
    simp only [List.reverse_cons]
    exact (RepL.reverse h2).append (repL_one h1)
theorem RepL.dropLast {ds : List D} {xs : List V} (h : RepL K G H ds xs) : RepL K G H ds.dropLast xs.dropLast := by
  rw [List.dropLast_eq_take, List.dropLast_eq_take, h.length]
  exact h.take _
theorem RepL.rep {ds : List D} {xs : List V} (h : RepL K G H ds xs) : ∀ k : Nat, RepL K G H (List.replicate k ds).flatten (List.replicate k xs).flatten
  | 0 => by simp [repL_nil]
  | k + 1 => by simp only [List.replicate_succ, List.flatten_cons]; exact h.append (RepL.rep h k)
theorem repL_ints : ∀ {ns : List Int} {xs : List V}, RepL K G H (ns.map D.int) xs → xs = ns.map V.int
  | [], _, h => by simpa [RepL] using h
  | n :: ns, _, h => by
    simp only [List.map_cons] at h
    unfold RepL at h
    obtain ⟨x, t, rfl, h1, h2⟩ := h
    unfold RepV at h1
    rw [h1, repL_ints h2]; rfl
theorem repL_of_ints : ∀ {ns : List Int}, RepL K G H (ns.map D.int) (ns.map V.int)
  | [] => repL_nil
  | n :: ns => repL_cons (by unfold RepV; rfl) repL_of_ints
theorem GOk.new (g : GOk K G H) {p : Addr} {o : HO} (h : H p = none) : GOk K G (upd H p o) := fun a u e => by
  have x := g a u e
  have ex : Ext G H G (upd H p o) := Ext.new h
  have n : a ≠ p := by obtain ⟨w, ew⟩ := x.there; exact ne_of_none ew h
  cases u with
  | lst ds => obtain ⟨xs, e1, r⟩ := x; exact ⟨xs, by rw [upd_ne n]; exact e1, r.ext ex⟩
  | dct kvs => obtain ⟨xs, e1, e2, r⟩ := x; exact ⟨xs, by rw [upd_ne n]; exact e1, e2, r.ext ex⟩
  | dtp kvs => obtain ⟨xs, e1, e2, r⟩ := x; exact ⟨xs, by rw [upd_ne n]; exact e1, e2, r.ext ex⟩
  | raw w => show upd H p o a = some w; rw [upd_ne n]; exact x
  | ins c fs => obtain ⟨dx, xs, e1, e2, r⟩ := x; exact ⟨dx, xs, by rw [upd_ne n]; exact e1, e2, r.ext ex⟩
  | tab q => exact TabD.ext ex x (upd_ne n)
  | slt c vs => exact SltD.ext ex x (upd_ne n)
theorem GOk.put (g : GOk K G H) {p : Addr} {o : HO} {u : DO} (ex : Ext G H (updG G p u) (upd H p o)) (new : DOk K (updG G p u) (upd H p o) p u) : GOk K (updG G p u) (upd H p o) := fun a w e => by
  by_cases n : a = p
  · subst n
    rw [updG_same] at e; cases e
    exact new
  · rw [updG_ne n] at e
    have x := g a w e
    cases w with
    | lst ds => obtain ⟨xs, e1, r⟩ := x; exact ⟨xs, by rw [upd_ne n]; exact e1, r.ext ex⟩
    | dct kvs => obtain ⟨xs, e1, e2, r⟩ := x; exact ⟨xs, by rw [upd_ne n]; exact e1, e2, r.ext ex⟩
    | dtp kvs => obtain ⟨xs, e1, e2, r⟩ := x; exact ⟨xs, by rw [upd_ne n]; exact e1, e2, r.ext ex⟩
    | raw w => show upd H p o a = some w; rw [upd_ne n]; exact x
    | ins c fs => obtain ⟨dx, xs, e1, e2, r⟩ := x; exact ⟨dx, xs, by rw [upd_ne n]; exact e1, e2, r.ext ex⟩
    | tab q => exact TabD.ext ex x (upd_ne n)
    | slt c vs => exact SltD.ext ex x (upd_ne n)
theorem GOk.drop (g : GOk K G H) {p : Addr} : GOk K (dropG G p) H := fun a w e => by
  by_cases n : a = p
  · subst n; rw [dropG_same] at e; cases e
  · rw [dropG_ne n] at e
    have ex : Ext G H (dropG G p) H := Ext.drop
    have x := g a w e
    cases w with
    | lst ds => obtain ⟨xs, e1, r⟩ := x; exact ⟨xs, e1, r.ext ex⟩
    | dct kvs => obtain ⟨xs, e1, e2, r⟩ := x; exact ⟨xs, e1, e2, r.ext ex⟩
    | dtp kvs => obtain ⟨xs, e1, e2, r⟩ := x; exact ⟨xs, e1, e2, r.ext ex⟩
    | raw w => exact x
    | ins c fs => obtain ⟨dx, xs, e1, e2, r⟩ := x; exact ⟨dx, xs, e1, e2, r.ext ex⟩
    | tab q => exact TabD.ext ex x rfl
    | slt c vs => exact SltD.ext ex x rfl
end
end Dl

namespace Dl
open PySem L2

abbrev DSt := List (Option D)
def sl : DSt → Nat → Option D
  | [], _ => none
  | x :: _, 0 => x
  | _ :: r, i + 1 => sl r i
theorem sl_get : ∀ {ρ : DSt} {i : Nat} {d : D}, sl ρ i = some d → ρ[i]? = some (some d)
  | [], _, _, h => by simp [sl] at h
  | _ :: _, 0, _, h => by simp [sl] at h; simp [h]
  | _ :: r, i + 1, d, h => by simp [sl] at h; simpa using sl_get h
structure DRel (K : PySem.W.Frag) (σ : St) (H : Hp) (ρ : DSt) (G : GH) : Prop where
  len : ρ.length = σ.length
  at_ : ∀ (i : Nat) (d : D), ρ[i]? = some (some d) → ∃ v, σ[i]? = some (some v) ∧ RepV K G H d v
  gok : GOk K G H
section
variable {K : PySem.W.Frag} {σ : St} {H H' : Hp} {ρ : DSt} {G G' : GH}
theorem DRel.ext (r : DRel K σ H ρ G) (e : Ext G H G' H') (g : GOk K G' H') : DRel K σ H' ρ G' :=
  ⟨r.len, fun i d h => let ⟨v, h1, h2⟩ := r.at_ i d h; ⟨v, h1, h2.ext e⟩, g⟩
theorem DRel.set (r : DRel K σ H ρ G) (i : Nat) {d : D} {v : V} (h : RepV K G H d v) : DRel K (σ.set i (some v)) H (ρ.set i (some d)) G := by
  refine ⟨by simp [r.len], fun j e hj => ?_, r.gok⟩
  by_cases q : i = j
  · subst q
    by_cases hl : i < ρ.length
    · rw [List.getElem?_set_self hl] at hj
      cases hj
      exact ⟨v, List.getElem?_set_self (by rw [← r.len]; exact hl), h⟩
    · rw [List.getElem?_eq_none (by simpa using hl)] at hj; cases hj
  · rw [List.getElem?_set_ne q] at hj
    obtain ⟨w, h1, h2⟩ := r.at_ j e hj
    exact ⟨w, by rw [List.getElem?_set_ne q]; exact h1, h2⟩
theorem DRel.sl (r : DRel K σ H ρ G) {i : Nat} {d : D} (h : Dl.sl ρ i = some d) : ∃ v, σ[i]? = some (some v) ∧ RepV K G H d v := r.at_ i d (sl_get h)
end

abbrev DK := D → GH → Prop
abbrev DTE := DSt → GH → DK → Prop
abbrev DTT := DSt → GH → (Bool → GH → Prop) → Prop
abbrev DTA := DSt → GH → (List D → GH → Prop) → Prop
structure DEnds where
  nx : DSt → GH → Prop
  rt : DK
  bk : DSt → GH → Prop := fun _ _ => False
  ct : DSt → GH → Prop := fun _ _ => False
abbrev DTS := DEnds → DSt → GH → Prop
abbrev DTG := D → DSt → GH → (DSt → GH → Prop) → Prop
abbrev DTGs := List D → DSt → GH → (DSt → GH → Prop) → Prop

def up (K : PySem.W.Frag) (t : DTE) : TE := fun σ H Qv => ∃ ρ G Q, DRel K σ H ρ G ∧ t ρ G Q ∧ ∀ v d H' G', Ext G H G' H' → DRel K σ H' ρ G' → RepV K G' H' d v → Q d G' → Qv v H'
def upT (K : PySem.W.Frag) (t : DTT) : TT := fun σ H Qv => ∃ ρ G Q, DRel K σ H ρ G ∧ t ρ G Q ∧ ∀ b H' G', Ext G H G' H' → DRel K σ H' ρ G' → Q b G' → Qv b H'
def upA (K : PySem.W.Frag) (t : DTA) : TA := fun σ H Qv => ∃ ρ G Q, DRel K σ H ρ G ∧ t ρ G Q ∧ ∀ vs ds H' G', Ext G H G' H' → DRel K σ H' ρ G' → RepL K G' H' ds vs → Q ds G' → Qv vs H'
def upS (K : PySem.W.Frag) (t : DTS) : TS := fun Dv σ H => ∃ (ρ : DSt) (G : GH) (E : DEnds), DRel K σ H ρ G ∧ t E ρ G ∧
  (∀ σ' ρ' H' G', Ext G H G' H' → DRel K σ' H' ρ' G' → E.nx ρ' G' → Dv.nx σ' H') ∧
  (∀ v d H' G', Ext G H G' H' → GOk K G' H' → RepV K G' H' d v → E.rt d G' → Dv.rt v H') ∧
  (∀ σ' ρ' H' G', Ext G H G' H' → DRel K σ' H' ρ' G' → E.bk ρ' G' → Dv.bk σ' H') ∧
  (∀ σ' ρ' H' G', Ext G H G' H' → DRel K σ' H' ρ' G' → E.ct ρ' G' → Dv.ct σ' H')
def upG (K : PySem.W.Frag) (g : DTG) : TG := fun v σ H Qv => ∃ ρ G d Q, DRel K σ H ρ G ∧ RepV K G H d v ∧ g d ρ G Q ∧ ∀ σ' ρ' H' G', Ext G H G' H' → DRel K σ' H' ρ' G' → Q ρ' G' → Qv σ' H'
def upGs (K : PySem.W.Frag) (g : DTGs) : TGs := fun vs σ H Qv => ∃ ρ G ds Q, DRel K σ H ρ G ∧ RepL K G H ds vs ∧ g ds ρ G Q ∧ ∀ σ' ρ' H' G', Ext G H G' H' → DRel K σ' H' ρ' G' → Q ρ' G' → Qv σ' H'

abbrev DE (X : Cx) (e : Expr) (t : DTE) : Prop := PE X e (up X.K t)
abbrev DT (X : Cx) (e : Expr) (t : DTT) : Prop := PT X e (upT X.K t)
abbrev DA (X : Cx) (es : List Expr) (t : DTA) : Prop := PA X es (upA X.K t)
abbrev DS (X : Cx) (st : Stmt) (t : DTS) : Prop := PS X st (upS X.K t)
abbrev DSs (X : Cx) (sts : List Stmt) (t : DTS) : Prop := PSs X sts (upS X.K t)
abbrev DG (X : Cx) (e : Expr) (t : DTG) : Prop := PG X e (upG X.K t)
abbrev DGs (X : Cx) (es : List Expr) (t : DTGs) : Prop := PGs X es (upGs X.K t)

section
variable {X : Cx}
theorem _root_.L2.PE.imp {e : Expr} {t t' : TE} (h : PE X e t) (i : ∀ σ H Q, t' σ H Q → t σ H Q) : PE X e t' := ⟨fun pins s σ H Q I q => h.run pins s σ H Q I (i σ H Q q)⟩
theorem _root_.L2.PT.imp {e : Expr} {t t' : TT} (h : PT X e t) (i : ∀ σ H Q, t' σ H Q → t σ H Q) : PT X e t' := ⟨fun pins s σ H Q I q => h.run pins s σ H Q I (i σ H Q q)⟩
theorem _root_.L2.PW.imp {e : Expr} {t t' : TT} (h : PW X e t) (i : ∀ σ H Q, t' σ H Q → t σ H Q) : PW X e t' := ⟨fun wh pins s σ H Q I q => h.run wh pins s σ H Q I (i σ H Q q)⟩
theorem _root_.L2.PA.imp {es : List Expr} {t t' : TA} (h : PA X es t) (i : ∀ σ H Q, t' σ H Q → t σ H Q) : PA X es t' := ⟨fun pos pins s σ H Q I q => h.run pos pins s σ H Q I (i σ H Q q)⟩
theorem _root_.L2.PS.imp {st : Stmt} {t t' : TS} (h : PS X st t) (i : ∀ D σ H, t' D σ H → t D σ H) : PS X st t' := ⟨fun pins s σ H D I q => h.run pins s σ H D I (i D σ H q)⟩
theorem _root_.L2.PSs.imp {st : List Stmt} {t t' : TS} (h : PSs X st t) (i : ∀ D σ H, t' D σ H → t D σ H) : PSs X st t' := ⟨fun pins s σ H D I q => h.run pins s σ H D I (i D σ H q)⟩
theorem _root_.L2.PG.imp {e : Expr} {t t' : TG} (h : PG X e t) (i : ∀ v σ H Q, t' v σ H Q → t v σ H Q) : PG X e t' := ⟨fun pins s σ H v u Q I r q => h.run pins s σ H v u Q I r (i v σ H Q q)⟩
theorem _root_.L2.PGs.imp {es : List Expr} {t t' : TGs} (h : PGs X es t) (i : ∀ v σ H Q, t' v σ H Q → t v σ H Q) : PGs X es t' := ⟨fun pins s σ H v u Q I r q => h.run pins s σ H v u Q I r (i v σ H Q q)⟩

@[simp] def dVar (i : Nat) : DTE := fun ρ G Q => match sl ρ i with
  | some d => Q d G
  | none => False
@[simp] def dC (d : D) : DTE := fun _ G Q => Q d G
theorem dVar_of {ρ : DSt} {G : GH} {Q : DK} {i : Nat} (h : dVar i ρ G Q) : ∃ d, sl ρ i = some d ∧ Q d G := by
  unfold dVar at h
  split at h
  · exact ⟨_, by assumption, h⟩
  · exact h.elim
theorem de_var {i : Nat} {x : Str} {pos : Pos} (hN : X.N[i]? = some x) (hv : Vis X.env.scope x) (hd : (x == ("__debug__" : Str)) = false := by decide) (hcd : (x == ("__classdict__" : Str)) = false := by decide) : DE X (.Name x pos) (dVar i) := by
  refine (pe_var hN hv hd hcd).imp fun σ H Q ⟨ρ, G, q, r, h, k⟩ => ?_
  obtain ⟨d, e, h⟩ := dVar_of h
  obtain ⟨v, e1, e2⟩ := r.sl e
  exact ⟨v, e1, k v d H G (Ext.refl G H) r e2 h⟩
theorem dv (i : Nat) {x : Str} {pos : Pos} (hN : X.N[i]? = some x := by rfl) (hv : Vis X.env.scope x := by first | exact Or.inl rfl | exact Or.inr (Or.inl rfl) | exact Or.inr (Or.inr rfl)) (hd : (x == ("__debug__" : Str)) = false := by decide)
    (hcd : (x == ("__classdict__" : Str)) = false := by decide) : DE X (.Name x pos) (dVar i) := de_var hN hv hd hcd
theorem de_c {e : Expr} {v : V} {d : D} (h : PE X e (tC v)) (r : ∀ G H, RepV X.K G H d v) : DE X e (dC d) :=
  h.imp fun σ H Q ⟨ρ, G, q, rel, h, k⟩ => k v d H G (Ext.refl G H) rel (r G H) h
theorem de_int {i j pos} : DE X (.Constant (.int i) j pos) (dC (.int i)) := de_c pe_int fun _ _ => by unfold RepV; rfl
theorem de_bl {b j pos} : DE X (.Constant (.bool b) j pos) (dC (.bl b)) := de_c pe_bl fun _ _ => by unfold RepV; rfl
theorem de_str {x j pos} : DE X (.Constant (.str x) j pos) (dC (.str x)) := de_c pe_str fun _ _ => by unfold RepV; rfl
def GlD (X : Cx) (x : Str) (d : D) : Prop := ∃ u, X.mg x = some u ∧ ∃ v, RelV v u ∧ ∀ G H, RepV X.K G H d v
theorem de_glob {x : Str} {d : D} {pos : Pos} (hg : Gl X x) (hm : GlD X x d) (hd : (x == ("__debug__" : Str)) = false := by decide) : DE X (.Name x pos) (dC d) := by
  obtain ⟨u, h1, v, h2, h3⟩ := hm
  exact de_c (pe_glob hg h1 h2 hd) h3

@[simp] def dNil : DTA := fun _ G Q => Q [] G
@[simp] def dCons (ta : DTE) (tr : DTA) : DTA := fun ρ G Q => ta ρ G fun x G1 => tr ρ G1 fun xs G2 => Q (x :: xs) G2
theorem da_nil : DA X [] dNil := (pa_nil (X := X)).imp fun σ H Q ⟨ρ, G, q, r, h, k⟩ => k [] [] H G (Ext.refl G H) r repL_nil h
theorem da_cons {e : Expr} {es : List Expr} {te : DTE} {t : DTA} (ha : DE X e te) (hr : DA X es t) (hs : starEach (e :: es) X.env = (false, eval e X.env) :: starEach es X.env := by rfl) : DA X (e :: es) (dCons te t) := by
  refine (pa_cons ha hr hs).imp fun σ H Q ⟨ρ, G, q, r, h, k⟩ => ?_
  refine ⟨ρ, G, _, r, h, fun v d H1 G1 e1 r1 v1 h1 => ?_⟩
  refine ⟨ρ, G1, _, r1, h1, fun vs ds H2 G2 e2 r2 v2 h2 => ?_⟩
  exact k (v :: vs) (d :: ds) H2 G2 (e1.trans e2) r2 (repL_cons (v1.ext e2) v2) h2
@[simp] def dTup (t : DTA) : DTE := fun ρ G Q => t ρ G fun xs G1 => xs.length ≤ sizeLine ∧ Q (.tup xs) G1
@[simp] def dLst (t : DTA) : DTE := fun ρ G Q => t ρ G fun xs G1 => xs.length ≤ sizeLine ∧ ∀ p, G1 p = none → Q (.ref p) (updG G1 p (.lst xs))
theorem DRel.newTup {K : PySem.W.Frag} {σ : St} {H : Hp} {ρ : DSt} {G : GH} {p : Addr} {ds : List D} {vs : List V} (r : DRel K σ H ρ G) (hp : H p = none) (hv : RepL K G H ds vs) :
    Ext G H G (upd H p (.tup vs)) ∧ DRel K σ (upd H p (.tup vs)) ρ G ∧ RepV K G (upd H p (.tup vs)) (.tup ds) (.ref p) := by
  have e : Ext G H G (upd H p (.tup vs)) := Ext.new hp
  refine ⟨e, r.ext e (r.gok.new hp), ?_⟩
  unfold RepV
  exact ⟨p, vs, rfl, .inl ⟨r.gok.fresh hp, upd_same⟩, hv.ext e⟩
theorem DRel.newLst {K : PySem.W.Frag} {σ : St} {H : Hp} {ρ : DSt} {G : GH} {p : Addr} {ds : List D} {vs : List V} (r : DRel K σ H ρ G) (hp : H p = none) (hv : RepL K G H ds vs) :
    Ext G H (updG G p (.lst ds)) (upd H p (.lst vs)) ∧ DRel K σ (upd H p (.lst vs)) ρ (updG G p (.lst ds)) ∧ RepV K (updG G p (.lst ds)) (upd H p (.lst vs)) (.ref p) (.ref p) := by
  have e : Ext G H (updG G p (.lst ds)) (upd H p (.lst vs)) := Ext.newG hp
  refine ⟨e, r.ext e (r.gok.put e ⟨vs, upd_same, hv.ext e⟩), by unfold RepV; rfl⟩
theorem de_tup {es : List Expr} {t : DTA} {x1} {pos : Pos} (h : DA X es t) : DE X (.Tuple es x1 pos) (dTup t) := by
  refine (pe_tup h).imp fun σ H Q ⟨ρ, G, q, r, h, k⟩ => ?_
  refine ⟨ρ, G, _, r, h, fun vs ds H1 G1 e1 r1 v1 ⟨z, h1⟩ => ⟨by rw [v1.length]; exact z, fun p hp => ?_⟩⟩
  obtain ⟨e2, r2, v2⟩ := r1.newTup hp v1
  exact k _ _ _ _ (e1.trans e2) r2 v2 h1
theorem de_lst {es : List Expr} {t : DTA} {pos : Pos} (h : DA X es t) : DE X (.List es pos) (dLst t) := by
  refine (pe_lst h).imp fun σ H Q ⟨ρ, G, q, r, h, k⟩ => ?_
  refine ⟨ρ, G, _, r, h, fun vs ds H1 G1 e1 r1 v1 ⟨z, h1⟩ => ⟨by rw [v1.length]; exact z, fun p hp => ?_⟩⟩
  obtain ⟨e2, r2, v2⟩ := r1.newLst hp v1
  exact k _ _ _ _ (e1.trans e2) r2 v2 (h1 p (r1.gok.fresh hp))
@[simp] def dFrz (t : DTE) : DTE := fun ρ G Q => t ρ G fun d G1 => match d with
  | .ref p => (match G1 p with
    | some (.lst ds) => Q (.lst ds) (dropG G1 p)
    | _ => Q (.ref p) G1)
  | d => Q d G1
theorem de_frz {e : Expr} {t : DTE} (h : DE X e t) : DE X e (dFrz t) := by
  refine PE.imp h fun σ H Q ⟨ρ, G, q, r, h, k⟩ => ?_
  refine ⟨ρ, G, _, r, h, fun v d H1 G1 e1 r1 v1 h1 => ?_⟩
  cases d with
  | ref p =>
    dsimp only at h1
    cases q : G1 p with
    | none => rw [q] at h1; exact k _ _ _ _ e1 r1 v1 h1
    | some o =>
      rw [q] at h1
      cases o with
      | lst ds =>
        dsimp only at h1
        obtain ⟨xs, hx, rx⟩ := r1.gok p _ q
        have e2 : Ext G1 H1 (dropG G1 p) H1 := Ext.drop
        refine k v (.lst ds) H1 (dropG G1 p) (e1.trans e2) (r1.ext e2 r1.gok.drop) ?_ h1
        unfold RepV at v1 ⊢
        exact ⟨p, xs, v1, ⟨dropG_same, hx⟩, rx.ext e2⟩
      | dct kvs => exact k _ _ _ _ e1 r1 v1 h1
      | raw o => exact k _ _ _ _ e1 r1 v1 h1
      | ins _ _ => exact k _ _ _ _ e1 r1 v1 h1
      | dtp _ => exact k _ _ _ _ e1 r1 v1 h1
      | tab _ => exact k _ _ _ _ e1 r1 v1 h1
      | slt _ _ => exact k _ _ _ _ e1 r1 v1 h1
  | _ => exact k _ _ _ _ e1 r1 v1 h1

abbrev DR2 := D → D → GH → DK → Prop
def upR (K : PySem.W.Frag) (r : DR2) : R2 := fun x y H Qv => ∃ (G : GH) (dx dy : D) (Q : DK), GOk K G H ∧ RepV K G H dx x ∧ RepV K G H dy y ∧ r dx dy G Q ∧ ∀ v d H' G', Ext G H G' H' → GOk K G' H' → RepV K G' H' d v → Q d G' → Qv v H'
abbrev DOp (X : Cx) (f : Value → Value → Sem Value) (r : DR2) : Prop := OpR X f (upR X.K r)
@[simp] def dOp (r : DR2) (ta tb : DTE) : DTE := fun ρ G Q => ta ρ G fun x G1 => tb ρ G1 fun y G2 => r x y G2 Q
theorem up_op {K : PySem.W.Frag} {r : DR2} {ta tb : DTE} {σ : St} {H : Hp} {Q : VK} (h : up K (dOp r ta tb) σ H Q) : tOp (upR K r) (up K ta) (up K tb) σ H Q := by
  obtain ⟨ρ, G, q, r0, h, k⟩ := h
  refine ⟨ρ, G, _, r0, h, fun x dx H1 G1 e1 r1 v1 h1 => ?_⟩
  refine ⟨ρ, G1, _, r1, h1, fun y dy H2 G2 e2 r2 v2 h2 => ?_⟩
  exact ⟨G2, dx, dy, q, r2.gok, v1.ext e2, v2, h2, fun v d H' G' e3 g3 v3 h3 => k v d H' G' ((e1.trans e2).trans e3) (r2.ext e3 g3) v3 h3⟩
theorem de_op {op : Operator} {r : DR2} {a b : Expr} {ta tb : DTE} {pos : Pos} (ho : DOp X (binaryOp op) r) (ha : DE X a ta) (hb : DE X b tb) : DE X (.BinOp a op b pos) (dOp r ta tb) :=
  (pe_op ho ha hb).imp fun _ _ _ h => up_op h
theorem de_cmp {op : CmpOp} {r : DR2} {a b : Expr} {ta tb : DTE} {pos : Pos} (ho : DOp X (compareOp op) r) (ha : DE X a ta) (hb : DE X b tb) (hm : behindInMarks op b = false) : DE X (.Compare a [op] [b] pos) (dOp r ta tb) :=
  (pe_cmpR ho ha hb hm).imp fun _ _ _ h => up_op h
@[simp] def dTst (t : DTE) : DTT := fun ρ G Q => t ρ G fun d G1 => match d with
  | .bl b => Q b G1
  | _ => False
theorem up_tst {K : PySem.W.Frag} {t : DTE} {σ : St} {H : Hp} {Q : Bool → Hp → Prop} (h : upT K (dTst t) σ H Q) : up K t σ H fun x H1 => ∃ k, x = .bl k ∧ Q k H1 := by
  obtain ⟨ρ, G, q, r0, h, k⟩ := h
  refine ⟨ρ, G, _, r0, h, fun x dx H1 G1 e1 r1 v1 h1 => ?_⟩
  cases dx with
  | bl b => unfold RepV at v1; exact ⟨b, v1, k b H1 G1 e1 r1 h1⟩
  | _ => exact h1.elim
theorem dt_cmp {op : CmpOp} {r : DR2} {a b : Expr} {ta tb : DTE} {pos : Pos} (ho : DOp X (compareOp op) r) (ha : DE X a ta) (hb : DE X b tb) (hm : behindInMarks op b = false) : DT X (.Compare a [op] [b] pos) (dTst (dOp r ta tb)) := by
  refine (pt_cmpR ho ha hb hm).imp fun σ H Q h => ?_
  exact up_op (up_tst h)
end
end Dl

namespace Dl
open PySem L2
section
variable {X : Cx}

@[simp] def dAnd (t u : DTT) : DTT := fun ρ G Q => t ρ G fun c G1 => if c = true then u ρ G1 Q else Q false G1
@[simp] def dOr (t u : DTT) : DTT := fun ρ G Q => t ρ G fun c G1 => if c = true then Q true G1 else u ρ G1 Q
@[simp] def dNot (t : DTT) : DTT := fun ρ G Q => t ρ G fun c G1 => Q (!c) G1
theorem up_and {K : PySem.W.Frag} {t u : DTT} {σ : St} {H : Hp} {Q : Bool → Hp → Prop} (h : upT K (dAnd t u) σ H Q) : tAnd (upT K t) (upT K u) σ H Q := by
  obtain ⟨ρ, G, q, r, h, k⟩ := h
  refine ⟨ρ, G, _, r, h, fun b H1 G1 e1 r1 h1 => ?_⟩
  cases b with
  | true => exact ⟨ρ, G1, q, r1, h1, fun b H' G' e r h => k b H' G' (e1.trans e) r h⟩
  | false => exact k false H1 G1 e1 r1 h1
theorem up_or {K : PySem.W.Frag} {t u : DTT} {σ : St} {H : Hp} {Q : Bool → Hp → Prop} (h : upT K (dOr t u) σ H Q) : tOr (upT K t) (upT K u) σ H Q := by
  obtain ⟨ρ, G, q, r, h, k⟩ := h
  refine ⟨ρ, G, _, r, h, fun b H1 G1 e1 r1 h1 => ?_⟩
  cases b with
  | false => exact ⟨ρ, G1, q, r1, h1, fun b H' G' e r h => k b H' G' (e1.trans e) r h⟩
  | true => exact k true H1 G1 e1 r1 h1
abbrev DW (X : Cx) (e : Expr) (t : DTT) : Prop := PW X e (upT X.K t)
theorem dw_and1 {a : Expr} {t : DTT} {pos : Pos} (h : DT X a t) : DW X (.BoolOp .And [a] pos) t := pw_and1 h
theorem dw_or1 {a : Expr} {t : DTT} {pos : Pos} (h : DT X a t) : DW X (.BoolOp .Or [a] pos) t := pw_or1 h
theorem dw_and {a b : Expr} {rest : List Expr} {t u : DTT} {pos : Pos} (h : DT X a t) (hb : DW X (.BoolOp .And (b :: rest) pos) u) : DW X (.BoolOp .And (a :: b :: rest) pos) (dAnd t u) := (pw_and h hb).imp fun _ _ _ h => up_and h
theorem dw_or {a b : Expr} {rest : List Expr} {t u : DTT} {pos : Pos} (h : DT X a t) (hb : DW X (.BoolOp .Or (b :: rest) pos) u) : DW X (.BoolOp .Or (a :: b :: rest) pos) (dOr t u) := (pw_or h hb).imp fun _ _ _ h => up_or h
theorem dt_w {e : Expr} {t : DTT} (h : DW X e t) : DT X e t := h.pt
theorem dt_not {a : Expr} {t : DTT} {pos : Pos} (h : DT X a t) : DT X (.UnaryOp .Not a pos) (dNot t) := by
  refine PT.imp (pt_not h) fun σ H Q ⟨ρ, G, q, r, h, k⟩ => ?_
  exact ⟨ρ, G, _, r, h, fun b H1 G1 e1 r1 h1 => k (!b) H1 G1 e1 r1 h1⟩
@[simp] def dAndV (ta tb : DTE) : DTE := fun ρ G Q => ta ρ G fun x G1 => match x with
  | .bl true => tb ρ G1 Q
  | .bl false => Q (.bl false) G1
  | _ => False
theorem de_one {op : BoolOp} {a : Expr} {t : DTE} {pos : Pos} (h : DE X a t) : DE X (.BoolOp op [a] pos) t := pe_one h
theorem de_and {a b : Expr} {rest : List Expr} {ta tb : DTE} {pos : Pos} (h : DE X a ta) (hb : DE X (.BoolOp .And (b :: rest) pos) tb) : DE X (.BoolOp .And (a :: b :: rest) pos) (dAndV ta tb) := by
  refine (pe_and h hb).imp fun σ H Q ⟨ρ, G, q, r, h, k⟩ => ?_
  refine ⟨ρ, G, _, r, h, fun v d H1 G1 e1 r1 v1 h1 => ?_⟩
  cases d with
  | bl c =>
    unfold RepV at v1
    refine ⟨c, v1, ?_⟩
    cases c with
    | true => exact ⟨ρ, G1, q, r1, h1, fun v d H' G' e r v' h => k v d H' G' (e1.trans e) r v' h⟩
    | false => exact k _ (.bl false) H1 G1 e1 r1 (by unfold RepV; rfl) h1
  | _ => exact h1.elim
@[simp] def dNotV (ta : DTE) : DTE := fun ρ G Q => ta ρ G fun x G1 => match x with
  | .bl c => Q (.bl (!c)) G1
  | _ => False
theorem de_not {a : Expr} {ta : DTE} {pos : Pos} (h : DE X a ta) : DE X (.UnaryOp .Not a pos) (dNotV ta) := by
  refine PE.imp (pe_not h) fun σ H Q ⟨ρ, G, q, r, h, k⟩ => ?_
  refine ⟨ρ, G, _, r, h, fun v d H1 G1 e1 r1 v1 h1 => ?_⟩
  cases d with
  | bl c =>
    unfold RepV at v1
    exact ⟨c, v1, k _ (.bl (!c)) H1 G1 e1 r1 (by unfold RepV; rfl) h1⟩
  | _ => exact h1.elim
@[simp] def dIf (c : DTT) (ta tb : DTE) : DTE := fun ρ G Q => c ρ G fun b G1 => if b = true then ta ρ G1 Q else tb ρ G1 Q
theorem de_if {c a b : Expr} {tc : DTT} {ta tb : DTE} {pos : Pos} (hc : DT X c tc) (ha : DE X a ta) (hb : DE X b tb) : DE X (.IfExp c a b pos) (dIf tc ta tb) := by
  refine (pe_ifExp hc ha hb).imp fun σ H Q ⟨ρ, G, q, r, h, k⟩ => ?_
  refine ⟨ρ, G, _, r, h, fun b H1 G1 e1 r1 h1 => ?_⟩
  cases b with
  | true => exact ⟨ρ, G1, q, r1, h1, fun v d H' G' e r v' h => k v d H' G' (e1.trans e) r v' h⟩
  | false => exact ⟨ρ, G1, q, r1, h1, fun v d H' G' e r v' h => k v d H' G' (e1.trans e) r v' h⟩

@[simp] def dNext : DTS := fun E ρ G => E.nx ρ G
@[simp] def dSeq (t u : DTS) : DTS := fun E ρ G => t { E with nx := u E } ρ G
theorem ds_nil : DSs X [] dNext := (pss_nil (X := X)).imp fun D σ H ⟨ρ, G, E, r, h, k1, _⟩ => k1 σ ρ H G (Ext.refl G H) r h
theorem ds_one {st : Stmt} {t : DTS} (h : DS X st t) : DSs X [st] t := pss_one h
theorem ds_cons {st : Stmt} {rest : List Stmt} {t u : DTS} (h : DS X st t) (h2 : DSs X rest u) : DSs X (st :: rest) (dSeq t u) := by
  refine (pss_cons h h2).imp fun D σ H ⟨ρ, G, E, r, h, k1, k2, k3, k4⟩ => ?_
  refine ⟨ρ, G, { E with nx := u E }, r, h, fun σ' ρ' H' G' e r' h' => ?_, k2, k3, k4⟩
  exact ⟨ρ', G', E, r', h', fun a b c d e' => k1 a b c d (e.trans e'), fun a b c d e' => k2 a b c d (e.trans e'), fun a b c d e' => k3 a b c d (e.trans e'), fun a b c d e' => k4 a b c d (e.trans e')⟩
@[simp] def dDrop (te : DTE) : DTS := fun E ρ G => te ρ G fun _ G1 => E.nx ρ G1
theorem ds_expr {e : Expr} {te : DTE} {pos : Pos} (he : DE X e te) (hs : swapsWith e none pos.line X.env = pure false := by rfl) : DS X (.Expr e pos) (dDrop te) := by
  refine (ps_expr he hs).imp fun D σ H ⟨ρ, G, E, r, h, k1, _⟩ => ?_
  exact ⟨ρ, G, _, r, h, fun v d H' G' e r' v' h' => k1 σ ρ H' G' e r' h'⟩
@[simp] def dRet (te : DTE) : DTS := fun E ρ G => te ρ G E.rt
theorem ds_ret {e : Expr} {te : DTE} {pos : Pos} (he : DE X e te) : DS X (.Return (some e) pos) (dRet te) := by
  refine (ps_ret he).imp fun D σ H ⟨ρ, G, E, r, h, _, k2, _⟩ => ?_
  exact ⟨ρ, G, _, r, h, fun v d H' G' e r' v' h' => k2 v d H' G' e r'.gok v' h'⟩
@[simp] def dIfS (c : DTT) (t u : DTS) : DTS := fun E ρ G => c ρ G fun b G1 => if b = true then t E ρ G1 else u E ρ G1
theorem upS_ext {K : PySem.W.Frag} {t : DTS} {Dv : Ends} {σ : St} {H H1 : Hp} {ρ : DSt} {G G1 : GH} {E : DEnds} (e : Ext G H G1 H1) (r1 : DRel K σ H1 ρ G1) (h : t E ρ G1)
    (k1 : ∀ σ' ρ' H' G', Ext G H G' H' → DRel K σ' H' ρ' G' → E.nx ρ' G' → Dv.nx σ' H')
    (k2 : ∀ v d H' G', Ext G H G' H' → GOk K G' H' → RepV K G' H' d v → E.rt d G' → Dv.rt v H')
    (k3 : ∀ σ' ρ' H' G', Ext G H G' H' → DRel K σ' H' ρ' G' → E.bk ρ' G' → Dv.bk σ' H')
    (k4 : ∀ σ' ρ' H' G', Ext G H G' H' → DRel K σ' H' ρ' G' → E.ct ρ' G' → Dv.ct σ' H') : upS K t Dv σ H1 :=
  ⟨ρ, G1, E, r1, h, fun a b c d e' => k1 a b c d (e.trans e'), fun a b c d e' => k2 a b c d (e.trans e'), fun a b c d e' => k3 a b c d (e.trans e'), fun a b c d e' => k4 a b c d (e.trans e')⟩
theorem ds_if {c : Expr} {a b : List Stmt} {tc : DTT} {t u : DTS} {pos : Pos} (hc : DT X c tc) (ha : DSs X a t) (hb : DSs X b u) : DS X (.If c a b pos) (dIfS tc t u) := by
  refine (ps_if hc ha hb).imp fun D σ H ⟨ρ, G, E, r, h, k1, k2, k3, k4⟩ => ?_
  refine ⟨ρ, G, _, r, h, fun b H1 G1 e1 r1 h1 => ?_⟩
  cases b with
  | true => exact upS_ext e1 r1 h1 k1 k2 k3 k4
  | false => exact upS_ext e1 r1 h1 k1 k2 k3 k4
@[simp] def gNm (i : Nat) : DTG := fun d ρ G Q => Q (ρ.set i (some d)) G
theorem dg_name {i : Nat} {x : Str} {pos : Pos} (hN : X.N.Nodup) (hi : X.N[i]? = some x) (hx : Loc X.env.scope x) (hf : X.fn x = true ∨ X.env.scope.names.lookup x = some .local := by first | exact .inl rfl | exact .inr rfl | assumption) : DG X (.Name x pos) (gNm i) :=
  (pg_name hN hi hx hf).imp fun v σ H Q ⟨ρ, G, d, q, r, rv, h, k⟩ => k _ _ H G (Ext.refl G H) (r.set i rv) h
@[simp] def gsNil : DTGs := fun ds ρ G Q => match ds with
  | [] => Q ρ G
  | _ => False
@[simp] def gsCons (t : DTG) (u : DTGs) : DTGs := fun ds ρ G Q => match ds with
  | d :: r => t d ρ G fun ρ' G' => u r ρ' G' Q
  | [] => False
theorem dgs_nil : DGs X [] gsNil := (pgs_nil (X := X)).imp fun v σ H Q ⟨ρ, G, ds, q, r, rv, h, k⟩ => by
  cases ds with
  | nil => unfold RepL at rv; exact ⟨rv, k σ ρ H G (Ext.refl G H) r h⟩
  | cons d ds => exact h.elim
theorem dgs_cons {e : Expr} {es : List Expr} {t : DTG} {u : DTGs} (h1 : DG X e t) (h2 : DGs X es u)
    (hs : (assignEach (e :: es) X.env).map (·.2) = assign e X.env :: (assignEach es X.env).map (·.2) := by rfl) : DGs X (e :: es) (gsCons t u) :=
  (pgs_cons h1 h2 hs).imp fun v σ H Q ⟨ρ, G, ds, q, r, rv, h, k⟩ => by
    cases ds with
    | nil => exact h.elim
    | cons d ds =>
      unfold RepL at rv
      obtain ⟨x, xs, rfl, hx, hxs⟩ := rv
      refine ⟨x, xs, rfl, ρ, G, d, _, r, hx, h, fun σ' ρ' H' G' e r' h' => ?_⟩
      exact ⟨ρ', G', ds, q, r', hxs.ext e, h', fun a b c d e' => k a b c d (e.trans e')⟩
@[simp] def gTp (n : Nat) (t : DTGs) : DTG := fun d ρ G Q => match d with
  | .tup xs => xs.length = n ∧ t xs ρ G Q
  | _ => False
theorem dg_tup {es : List Expr} {k : Nat} {t : DTGs} {n : Nat} {pos : Pos} (hc : X.calm = true) (h : DGs X es t)
    (hn : (assignEach es X.env).length = n := by rfl) (hst : (assignEach es X.env).findIdx? (·.1) = none := by rfl) : DG X (.Tuple es k pos) (gTp n t) :=
  (pg_tup hc h hn hst).imp fun v σ H Q ⟨ρ, G, d, q, r, rv, h, k⟩ => by
    cases d with
    | tup ds =>
      unfold RepV at rv
      obtain ⟨a, xs, rfl, ta, rl⟩ := rv
      exact ⟨a, xs, rfl, ta.sq, by rw [rl.length]; exact h.1, ρ, G, ds, q, r, rl, h.2, k⟩
    | _ => exact h.elim
abbrev DSet := D → D → D → GH → (GH → Prop) → Prop
def upSet (K : PySem.W.Frag) (t : DSet) : TSet := fun o i v H Qv => ∃ (G : GH) (dO di d : D) (Q : GH → Prop), GOk K G H ∧ RepV K G H dO o ∧ RepV K G H di i ∧ RepV K G H d v ∧ t dO di d G Q ∧ ∀ H' G', Ext G H G' H' → GOk K G' H' → Q G' → Qv H'
@[simp] def gSb (to ti : DTE) (t : DSet) : DTG := fun d ρ G Q => to ρ G fun o G1 => ti ρ G1 fun i G2 => t o i d G2 fun G3 => Q ρ G3
theorem dg_sub {o i : Expr} {to ti : DTE} {t : DSet} {pos : Pos} (ho : DE X o to) (hi : DE X i ti) (hs : PSet X (upSet X.K t))
    (ha : ∀ v, assign (.Subscript o i pos) X.env v = (do
      let ov ← holding [v] (eval o X.env)
      let iv ← holding [v, ov] (eval i X.env)
      standAt pos
      holding [v, ov, iv] (setItem ov iv v)
      release [v, ov, iv] []) := by intro _; rfl) : DG X (.Subscript o i pos) (gSb to ti t) :=
  (pg_sub ho hi hs ha).imp fun v σ H Q ⟨ρ, G, d, q, r, rv, h, k⟩ => by
    refine ⟨ρ, G, _, r, h, fun ov od H1 G1 e1 r1 v1 h1 => ?_⟩
    refine ⟨ρ, G1, _, r1, h1, fun iv idd H2 G2 e2 r2 v2 h2 => ?_⟩
    refine ⟨G2, od, idd, d, _, r2.gok, v1.ext e2, v2, rv.ext (e1.trans e2), h2, fun H' G' e3 g3 h3 => ?_⟩
    exact k σ ρ H' G' ((e1.trans e2).trans e3) (r2.ext e3 g3) h3
@[simp] def dAsg (te : DTE) (g : DTG) : DTS := fun E ρ G => te ρ G fun x G1 => g x ρ G1 E.nx
theorem up_asg {K : PySem.W.Frag} {te : DTE} {g : DTG} {D : Ends} {σ : St} {H : Hp} (h : upS K (dAsg te g) D σ H) : tAsg (up K te) (upG K g) D σ H := by
  obtain ⟨ρ, G, E, r, h, k1, k2, k3, k4⟩ := h
  refine ⟨ρ, G, _, r, h, fun v d H1 G1 e1 r1 v1 h1 => ?_⟩
  exact ⟨ρ, G1, d, _, r1, v1, h1, fun a b c d e' => k1 a b c d (e1.trans e')⟩
theorem ds_asg {tg e : Expr} {te : DTE} {g : DTG} {pos : Pos} (he : DE X e te) (hg : DG X tg g) (hs : swapsWithSole [tg] e pos.line X.env = pure false := by rfl) (hw : swappedStores [tg] e X.env = pure none := by rfl)
    (h1 : (assignEach [tg] X.env).map (·.2) = [assign tg X.env] := by rfl) : DS X (.Assign [tg] e pos) (dAsg te g) := (ps_asg he hg hs hw h1).imp fun _ _ _ h => up_asg h
theorem ds_set {i : Nat} {x : Str} {e : Expr} {te : DTE} {pos pos' : Pos} (hN : X.N.Nodup) (hi : X.N[i]? = some x) (hx : Loc X.env.scope x) (he : DE X e te) (hs : swapsWith e (some (.Name x pos')) pos.line X.env = pure false := by rfl) (hf : X.fn x = true ∨ X.env.scope.names.lookup x = some .local := by first | exact .inl rfl | exact .inr rfl | assumption) :
    DS X (.Assign [.Name x pos'] e pos) (dAsg te (gNm i)) := by
  refine (ps_set hN hi hx he hs hf).imp fun D σ H ⟨ρ, G, E, r, h, k1, k2, k3, k4⟩ => ?_
  refine ⟨ρ, G, _, r, h, fun v d H1 G1 e1 r1 v1 h1 => ?_⟩
  exact k1 _ _ H1 G1 e1 (r1.set i v1) h1
@[simp] def dPar (i j : Nat) (ta : DTA) : DTS := fun E ρ G => ta ρ G fun ds G1 => match ds with
  | [v, w] => E.nx ((ρ.set i (some v)).set j (some w)) G1
  | _ => False
theorem ds_par {i j : Nat} {x y : Str} {a b : Expr} {ta : DTA} {px py pt pos : Pos} {kt k2 pt2} (hc : X.calm = true) (hN : X.N.Nodup) (hi : X.N[i]? = some x) (hj : X.N[j]? = some y) (hij : i ≠ j)
    (hx : X.env.scope.names.lookup x = some .local) (hy : X.env.scope.names.lookup y = some .local) (ha : DA X [a, b] ta)
    (hw : swappedStores [.Tuple [.Name x px, .Name y py] kt pt] (.Tuple [a, b] k2 pt2) X.env = pure (some [x, y]))
    (hs : swapsWithSole [.Tuple [.Name x px, .Name y py] kt pt] (.Tuple [a, b] k2 pt2) pos.line X.env = pure false := by rfl) :
    DS X (.Assign [.Tuple [.Name x px, .Name y py] kt pt] (.Tuple [a, b] k2 pt2) pos) (dPar i j ta) := by
  refine (ps_par hc hN hi hj hij hx hy ha hw hs).imp fun D σ H ⟨ρ, G, E, r, h, k1, k2, k3, k4⟩ => ?_
  refine ⟨ρ, G, _, r, h, fun vs ds H1 G1 e1 r1 v1 h1 => ?_⟩
  match ds, h1 with
  | [v, w], h1 =>
    unfold RepL at v1
    obtain ⟨x1, t1, rfl, y1, v1⟩ := v1
    unfold RepL at v1
    obtain ⟨x2, t2, rfl, y2, v1⟩ := v1
    unfold RepL at v1
    subst v1
    exact ⟨x1, x2, rfl, k1 _ _ H1 G1 e1 ((r1.set i y1).set j y2) h1⟩
  | [], h1 => exact h1.elim
  | [_], h1 => exact h1.elim
  | _ :: _ :: _ :: _, h1 => exact h1.elim

def dWhileGo (c : DTT) (tb : DTS) : Nat → DTS
  | 0, _, _, _ => False
  | n + 1, E, ρ, G => c ρ G fun b G1 => if b = true then tb { E with nx := dWhileGo c tb n E, ct := dWhileGo c tb n E, bk := E.nx } ρ G1 else E.nx ρ G1
def dWhile (c : DTT) (tb : DTS) : DTS := fun E ρ G => ∃ n, dWhileGo c tb n E ρ G
theorem ds_while {c : Expr} {body : List Stmt} {tc : DTT} {tb : DTS} {pos : Pos} (hp : PassesOwn (model X.prog X.w) X.A X.env X.xe) (hc : DT X c tc) (hb : DSs X body tb) : DS X (.While c body [] pos) (dWhile tc tb) := by
  refine (ps_while hp hc hb).imp fun D σ H ⟨ρ, G, E, r, ⟨n, h⟩, k1, k2, k3, k4⟩ => ?_
  refine ⟨fun m σ1 H1 => ∃ ρ1 G1, Ext G H G1 H1 ∧ DRel X.K σ1 H1 ρ1 G1 ∧ dWhileGo tc tb m E ρ1 G1, ⟨n, ρ, G, Ext.refl G H, r, h⟩, ?_⟩
  rintro m σ1 H1 ⟨ρ1, G1, e1, r1, h1⟩
  cases m with
  | zero => exact h1.elim
  | succ m =>
    unfold dWhileGo at h1
    refine ⟨ρ1, G1, _, r1, h1, fun b H2 G2 e2 r2 h2 => ?_⟩
    cases b with
    | false => exact k1 σ1 ρ1 H2 G2 (e1.trans e2) r2 h2
    | true =>
      refine ⟨fun σ3 H3 => ∃ ρ3 G3, Ext G H G3 H3 ∧ DRel X.K σ3 H3 ρ3 G3 ∧ dWhileGo tc tb m E ρ3 G3, fun σ3 H3 q => ⟨m, Nat.lt_succ_self m, q⟩, ?_⟩
      refine ⟨ρ1, G2, _, r2, h2, ?_, ?_, ?_, ?_⟩
      · exact fun σ' ρ' H' G' e' r' h' => ⟨ρ', G', (e1.trans e2).trans e', r', h'⟩
      · exact fun v d H' G' e' => k2 v d H' G' ((e1.trans e2).trans e')
      · exact fun σ' ρ' H' G' e' r' h' => k1 σ' ρ' H' G' ((e1.trans e2).trans e') r' h'
      · exact fun σ' ρ' H' G' e' r' h' => ⟨ρ', G', (e1.trans e2).trans e', r', h'⟩

def DIt (K : PySem.W.Frag) (J : It) (items : List D) (ok : GH → Prop) (G0 : GH) (H0 : Hp) : Prop :=
  ∀ G H, Ext G0 H0 G H → GOk K G H → ok G → ∀ i, (∀ d, items[i]? = some d → J.go i H ∧ ∀ x H1, J.yld i H x H1 → Ext G H G H1 ∧ GOk K G H1 ∧ RepV K G H1 d x) ∧ (i = items.length → J.stop i H)
abbrev DTI := DSt → GH → (List D → (GH → Prop) → GH → Prop) → Prop
def upI (K : PySem.W.Frag) (t : DTI) : TI := fun σ H R => ∃ ρ G Q, DRel K σ H ρ G ∧ t ρ G Q ∧ ∀ J items ok H' G', Ext G H G' H' → DRel K σ H' ρ G' → DIt K J items ok G' H' → Q items ok G' → R J H'
abbrev DI (X : Cx) (tg iter : Expr) (t : DTI) : Prop := PI X tg iter (upI X.K t)
theorem _root_.L2.PI.imp {tg iter : Expr} {t t' : TI} (h : PI X tg iter t) (i : ∀ σ H R, t' σ H R → t σ H R) : PI X tg iter t' := ⟨fun pins s σ H R I q => h.run pins s σ H R I (i σ H R q)⟩
def okAll : GH → Prop := fun _ => True
def rngD (lo : Int) (n : Nat) : List D := (List.range n).map fun i => D.int (lo + (i : Nat))
theorem dit_range {K : PySem.W.Frag} {lo : Int} {n : Nat} {G0 : GH} {H0 : Hp} : DIt K (Itr lo n) (rngD lo n) okAll G0 H0 := fun G H e g _ i => by
  refine ⟨fun d hd => ?_, fun hi => ?_⟩
  · unfold rngD at hd
    rw [List.getElem?_map] at hd
    by_cases hi : i < n
    · rw [List.getElem?_range hi] at hd
      simp at hd
      subst hd
      refine ⟨hi, fun x H1 hx => ?_⟩
      obtain ⟨rfl, rfl⟩ := hx
      exact ⟨Ext.refl _ _, g, by unfold RepV; rfl⟩
    · rw [List.getElem?_eq_none (by simpa using hi)] at hd
      simp at hd
  · unfold rngD at hi
    show n ≤ i
    simp at hi
    omega
@[simp] def iRg1 (t : DTA) : DTI := fun ρ G Q => t ρ G fun ds G1 => match ds with
  | [.int j] => -(2 ^ 62) ≤ j ∧ j < 2 ^ 62 ∧ Q (rngD 0 j.toNat) okAll G1
  | _ => False
@[simp] def iRg2 (t : DTA) : DTI := fun ρ G Q => t ρ G fun ds G1 => match ds with
  | [.int i, .int j] => (-(2 ^ 62) ≤ i ∧ i < 2 ^ 62 ∧ -(2 ^ 62) ≤ j ∧ j < 2 ^ 62) ∧ Q (rngD i (j - i).toNat) okAll G1
  | _ => False
theorem di_range1 {tg a : Expr} {t : DTA} {p pos : Pos} (hg : Gl X "range") (hm : X.mg "range" = none) (ha : DA X [a] t) (hs : starEach [a] X.env = [(false, eval a X.env)] := by rfl) : DI X tg (.Call (.Name "range" p) [a] [] pos) (iRg1 t) := by
  refine (pi_range1 hg hm ha hs).imp fun σ H R ⟨ρ, G, q, r, h, k⟩ => ?_
  refine ⟨ρ, G, _, r, h, fun vs ds H1 G1 e1 r1 v1 h1 => ?_⟩
  match ds, h1 with
  | [.int j], h1 =>
    unfold RepL at v1
    obtain ⟨x1, t1, rfl, y1, v1⟩ := v1
    unfold RepL at v1
    subst v1
    unfold RepV at y1
    subst y1
    exact ⟨j, rfl, h1.1, h1.2.1, k _ _ _ H1 G1 e1 r1 dit_range h1.2.2⟩
theorem di_range2 {tg a b : Expr} {t : DTA} {p pos : Pos} (hg : Gl X "range") (hm : X.mg "range" = none) (ha : DA X [a, b] t) (hs : starEach [a, b] X.env = [(false, eval a X.env), (false, eval b X.env)] := by rfl) (hs2 : starEach [b] X.env = [(false, eval b X.env)] := by rfl) :
    DI X tg (.Call (.Name "range" p) [a, b] [] pos) (iRg2 t) := by
  refine (pi_range2 hg hm ha hs hs2).imp fun σ H R ⟨ρ, G, q, r, h, k⟩ => ?_
  refine ⟨ρ, G, _, r, h, fun vs ds H1 G1 e1 r1 v1 h1 => ?_⟩
  match ds, h1 with
  | [.int i, .int j], h1 =>
    unfold RepL at v1
    obtain ⟨x1, t1, rfl, y1, v1⟩ := v1
    unfold RepL at v1
    obtain ⟨x2, t2, rfl, y2, v1⟩ := v1
    unfold RepL at v1
    subst v1
    unfold RepV at y1 y2
    subst y1 y2
    exact ⟨i, j, rfl, h1.1, k _ _ _ H1 G1 e1 r1 dit_range h1.2⟩

def dForGo (ok : GH → Prop) (g : DTG) (tb : DTS) : List D → DTS
  | [], E, ρ, G => ok G ∧ E.nx ρ G
  | x :: xs, E, ρ, G => ok G ∧ g x ρ G fun ρ2 G2 => tb { E with nx := dForGo ok g tb xs E, ct := dForGo ok g tb xs E, bk := E.nx } ρ2 G2
def dFor (wi : DTI) (g : DTG) (tb : DTS) : DTS := fun E ρ G => wi ρ G fun items ok G1 => dForGo ok g tb items E ρ G1
theorem ds_for {tg iter : Expr} {body : List Stmt} {wi : DTI} {g : DTG} {tb : DTS} {pos : Pos} (hp : PassesOwn (model X.prog X.w) X.A X.env X.xe) (hc : X.calm = true) (hi : DI X tg iter wi) (hg : DG X tg g) (hb : DSs X body tb)
    (hs : ∀ x, foldedSetIterable iter X.env x = pure x := by intro _; rfl) : DS X (.For tg iter body [] pos) (dFor wi g tb) := by
  refine (ps_for hp hc hi hg hb hs).imp fun D σ H ⟨ρ, G, E, r, h, k1, k2, k3, k4⟩ => ?_
  refine ⟨ρ, G, _, r, h, fun J items ok H1 G1 e1 r1 it h1 => ?_⟩
  refine ⟨fun i m σ2 H2 => m = items.length - i ∧ i ≤ items.length ∧ ∃ ρ2 G2, Ext G1 H1 G2 H2 ∧ DRel X.K σ2 H2 ρ2 G2 ∧ dForGo ok g tb (items.drop i) E ρ2 G2, ⟨items.length, rfl, Nat.zero_le _, ρ, G1, Ext.refl _ _, r1, h1⟩, ?_⟩
  rintro i m σ2 H2 ⟨rfl, hi, ρ2, G2, e2, r2, h2⟩
  by_cases hlt : i < items.length
  · rw [List.drop_eq_getElem_cons hlt] at h2
    unfold dForGo at h2
    obtain ⟨ho, h2⟩ := h2
    obtain ⟨a, b⟩ := it G2 H2 e2 r2.gok ho i
    obtain ⟨go, yl⟩ := a items[i] (List.getElem?_eq_getElem hlt)
    refine .inr ⟨go, fun σ3 H3 => ∃ ρ3 G3, Ext G1 H1 G3 H3 ∧ DRel X.K σ3 H3 ρ3 G3 ∧ dForGo ok g tb (items.drop (i + 1)) E ρ3 G3, fun σ3 H3 ⟨ρ3, G3, q⟩ => ⟨items.length - (i + 1), by omega, rfl, hlt, ρ3, G3, q⟩, fun x H3 hy => ?_⟩
    obtain ⟨e3, g3, rx⟩ := yl x H3 hy
    refine ⟨ρ2, G2, items[i], _, r2.ext e3 g3, rx, h2, fun σ4 ρ4 H4 G4 e4 r4 h4 => ?_⟩
    have e5 := (e2.trans e3).trans e4
    refine ⟨ρ4, G4, _, r4, h4, ?_, ?_, ?_, ?_⟩
    · exact fun σ' ρ' H' G' e' r' h' => ⟨ρ', G', e5.trans e', r', h'⟩
    · exact fun v d H' G' e' => k2 v d H' G' ((e1.trans e5).trans e')
    · exact fun σ' ρ' H' G' e' r' h' => k1 σ' ρ' H' G' ((e1.trans e5).trans e') r' h'
    · exact fun σ' ρ' H' G' e' r' h' => ⟨ρ', G', e5.trans e', r', h'⟩
  · have e : i = items.length := by omega
    subst e
    rw [List.drop_length] at h2
    unfold dForGo at h2
    exact .inl ⟨(it G2 H2 e2 r2.gok h2.1 _).2 rfl, k1 σ2 ρ2 H2 G2 (e1.trans e2) r2 h2.2⟩

def wipeD (ρ : DSt) : List Nat → DSt
  | [] => ρ
  | v :: vs => (wipeD ρ vs).set v none
theorem DRel.wipe {K : PySem.W.Frag} {σ : St} {H : Hp} {ρ : DSt} {G : GH} (r : DRel K σ H ρ G) : ∀ vs : List Nat, DRel K (wipe σ vs) H (wipeD ρ vs) G
  | [] => r
  | v :: vs => by
    have ih := DRel.wipe r vs
    unfold L2.wipe wipeD
    refine ⟨by simp [ih.len], fun i d h => ?_, ih.gok⟩
    by_cases q : v = i
    · subst q
      by_cases hl : v < (wipeD ρ vs).length
      · rw [List.getElem?_set_self hl] at h; cases h
      · rw [List.getElem?_eq_none (by simpa using hl)] at h; cases h
    · rw [List.getElem?_set_ne q] at h
      obtain ⟨w, h1, h2⟩ := ih.at_ i d h
      exact ⟨w, by rw [List.getElem?_set_ne q]; exact h1, h2⟩
abbrev DTs (X : Cx) (ifs : List Expr) (t : DTT) : Prop := PTs X ifs (upT X.K t)
@[simp] def dYes : DTT := fun _ G Q => Q true G
theorem dts_nil : DTs X [] dYes := ⟨fun pins s σ H Q I ⟨ρ, G, q, r, h, k⟩ => (pts_nil (X := X)).run pins s σ H Q I (k true H G (Ext.refl G H) r h)⟩
theorem dts_one {c : Expr} {t : DTT} (h : DT X c t) : DTs X [c] t := pts_one h
end
end Dl

namespace Dl
open PySem L2

inductive CT where
  | one (i : Nat)
  | tup (is : List Nat)
def CT.slots : CT → List Nat
  | .one i => [i]
  | .tup is => is
def setAll : DSt → List Nat → List D → Option DSt
  | ρ, [], [] => some ρ
  | ρ, i :: is, d :: ds => setAll (ρ.set i (some d)) is ds
  | _, _, _ => none
def bindC : CT → D → DSt → Option DSt
  | .one i, d, ρ => some (ρ.set i (some d))
  | .tup is, .tup ds, ρ => setAll ρ is ds
  | .tup _, _, _ => none
def gNames : List Nat → TGs
  | [] => gNil
  | i :: is => gCons (gName i) (gNames is)
def CT.gV (K : PySem.W.Frag) : CT → TG
  | .one i => gName i
  | .tup is => gTup K is.length (gNames is)
theorem wipe_set {σ : St} {i : Nat} {x : Option V} : ∀ {vs : List Nat}, i ∈ vs → wipe (σ.set i x) vs = wipe σ vs
  | v :: vs, h => by
    unfold wipe
    by_cases q : i ∈ vs
    · rw [wipe_set q]
    · have e : v = i := by
        rcases List.mem_cons.mp h with e | e
        · exact e.symm
        · exact absurd e q
      subst e
      have go : ∀ ws : List Nat, v ∉ ws → wipe (σ.set v x) ws = (wipe σ ws).set v x := by
        intro ws
        induction ws with
        | nil => intro _; rfl
        | cons w ws ih =>
          intro hw
          simp only [List.mem_cons, not_or] at hw
          unfold wipe
          rw [ih hw.2, List.set_comm _ _ hw.1]
      rw [go vs q, List.set_set]
theorem wipe_wipe (σ : St) (vs : List Nat) : wipe (wipe σ vs) vs = wipe σ vs := by
  have go : ∀ ws : List Nat, (∀ i ∈ ws, i ∈ vs) → wipe (wipe σ ws) vs = wipe σ vs := by
    intro ws
    induction ws with
    | nil => intro _; rfl
    | cons w ws ih =>
      intro h
      show wipe ((wipe σ ws).set w none) vs = wipe σ vs
      rw [wipe_set (h w List.mem_cons_self)]
      exact ih fun i hi => h i (List.mem_cons_of_mem _ hi)
  exact go vs fun _ h => h
theorem setAll_ok {K : PySem.W.Frag} {H : Hp} {G : GH} {vs : List Nat} : ∀ {is : List Nat} {ds : List D} {xs : List V} {ρ ρ' : DSt} {σ : St} {Q : St → Hp → Prop}, (∀ i ∈ is, i ∈ vs) → DRel K σ H ρ G → RepL K G H ds xs → setAll ρ is ds = some ρ' →
    (∀ σ', DRel K σ' H ρ' G → wipe σ' vs = wipe σ vs → Q σ' H) → xs.length = is.length ∧ gNames is xs σ H Q
  | [], [], _, ρ, ρ', σ, Q, hi, r, rl, e, k => by
    unfold RepL at rl
    subst rl
    simp [setAll] at e
    subst e
    exact ⟨rfl, rfl, k σ r rfl⟩
  | i :: is, d :: ds, _, ρ, ρ', σ, Q, hi, r, rl, e, k => by
    unfold RepL at rl
    obtain ⟨x, xs, rfl, hx, hxs⟩ := rl
    have e' : setAll (ρ.set i (some d)) is ds = some ρ' := e
    obtain ⟨l, g⟩ := setAll_ok (vs := vs) (Q := Q) (fun j hj => hi j (List.mem_cons_of_mem _ hj)) (r.set i hx) hxs e' fun σ' r' w => k σ' r' (by rw [w, wipe_set (hi i List.mem_cons_self)])
    exact ⟨by simp [l], x, xs, rfl, g⟩
  | [], _ :: _, _, _, _, _, _, _, _, _, e, _ => by simp [setAll] at e
  | _ :: _, [], _, _, _, _, _, _, _, _, e, _ => by simp [setAll] at e
theorem bindC_ok {K : PySem.W.Frag} {H : Hp} {G : GH} {vs : List Nat} {ct : CT} {d : D} {v : V} {ρ ρ' : DSt} {σ : St} {Q : St → Hp → Prop} (hi : ∀ i ∈ ct.slots, i ∈ vs) (r : DRel K σ H ρ G) (rv : RepV K G H d v) (e : bindC ct d ρ = some ρ')
    (k : ∀ σ', DRel K σ' H ρ' G → wipe σ' vs = wipe σ vs → Q σ' H) : ct.gV K v σ H Q := by
  cases ct with
  | one i =>
    simp only [bindC, Option.some.injEq] at e
    subst e
    exact k _ (r.set i rv) (wipe_set (hi i (by simp [CT.slots])))
  | tup is =>
    cases d with
    | tup ds =>
      unfold RepV at rv
      obtain ⟨a, xs, rfl, ta, rl⟩ := rv
      obtain ⟨l, g⟩ := setAll_ok (Q := Q) hi r rl e k
      exact ⟨a, xs, rfl, ta.sq, l, g⟩
    | _ => simp [bindC] at e
def dLcGo (ok : GH → Prop) (ct : CT) (tt : DTT) (te : DTE) (ρ : DSt) (p : Addr) : List D → GH → DK → Prop
  | [], G, Q => ok G ∧ Q (.ref p) G
  | x :: xs, G, Q => ok G ∧ match bindC ct x ρ with
    | none => False
    | some ρ2 => tt ρ2 G fun b G3 => if b = true then te ρ2 G3 fun y G4 => (match G4 p with
        | some (.lst acc) => acc.length < sizeLine ∧ dLcGo ok ct tt te ρ p xs (updG G4 p (.lst (acc ++ [y]))) Q
        | _ => False) else dLcGo ok ct tt te ρ p xs G3 Q
def dLc (wi : DTI) (ct : CT) (tt : DTT) (te : DTE) (vs : List Nat) : DTE := fun ρ G Q => wi ρ G fun items ok G1 => ∀ p, G1 p = none → dLcGo ok ct tt te (wipeD ρ vs) p items (updG G1 p (.lst [])) Q
theorem up_lc {K : PySem.W.Frag} {wi : DTI} {ct : CT} {tt : DTT} {te : DTE} {vs : List Nat} (hi : ∀ i ∈ ct.slots, i ∈ vs) {σ : St} {H : Hp} {Q : VK} (h : up K (dLc wi ct tt te vs) σ H Q) :
    tLc (upI K wi) (ct.gV K) (upT K tt) (up K te) vs σ H Q := by
  obtain ⟨ρ, G, q, r, h, k⟩ := h
  refine ⟨ρ, G, _, r, h, fun J items ok H1 G1 e1 r1 it h1 => fun p hp => ?_⟩
  obtain ⟨e2, r2, _⟩ := r1.newLst hp (repL_nil (K := K) (G := G1) (H := H1))
  have h2 := h1 p (r1.gok.fresh hp)
  refine ⟨fun i m H2 => m = items.length - i ∧ i ≤ items.length ∧ ∃ G2, Ext (updG G1 p (.lst [])) (upd H1 p (.lst [])) G2 H2 ∧ GOk K G2 H2 ∧ dLcGo ok ct tt te (wipeD ρ vs) p (items.drop i) G2 q, ⟨items.length, rfl, Nat.zero_le _, _, Ext.refl _ _, r2.gok, h2⟩, ?_⟩
  rintro i m H2 ⟨rfl, hi2, G2, e3, g3, h3⟩
  have r3 : DRel K σ H2 ρ G2 := r2.ext e3 g3
  have e13 : Ext G1 H1 G2 H2 := e2.trans e3
  by_cases hlt : i < items.length
  · rw [List.drop_eq_getElem_cons hlt] at h3
    unfold dLcGo at h3
    obtain ⟨ho, h3⟩ := h3
    obtain ⟨a, b⟩ := it G2 H2 e13 g3 ho i
    obtain ⟨go, yl⟩ := a items[i] (List.getElem?_eq_getElem hlt)
    refine .inr ⟨go, fun H3 => ∃ G3, Ext (updG G1 p (.lst [])) (upd H1 p (.lst [])) G3 H3 ∧ GOk K G3 H3 ∧ dLcGo ok ct tt te (wipeD ρ vs) p (items.drop (i + 1)) G3 q, fun H3 ⟨G3, q3⟩ => ⟨items.length - (i + 1), by omega, rfl, hlt, G3, q3⟩, fun x H3 hy => ?_⟩
    obtain ⟨e4, g4, rx⟩ := yl x H3 hy
    have r4 : DRel K (wipe σ vs) H3 (wipeD ρ vs) G2 := (r3.ext e4 g4).wipe vs
    cases eb : bindC ct items[i] (wipeD ρ vs) with
    | none => rw [eb] at h3; exact h3.elim
    | some ρ2 =>
      rw [eb] at h3
      refine bindC_ok hi r4 rx eb fun σ5 r5 w5 => ⟨by rw [w5, wipe_wipe], ρ2, G2, _, r5, h3, fun b H6 G6 e6 r6 h6 => ?_⟩
      have e36 := (e3.trans e4).trans e6
      cases b with
      | false => exact ⟨G6, e36, r6.gok, h6⟩
      | true =>
        refine ⟨ρ2, G6, _, r6, h6, fun y dy H7 G7 e7 r7 v7 h7 => ?_⟩
        cases hg : G7 p with
        | none => rw [hg] at h7; exact h7.elim
        | some o =>
          rw [hg] at h7
          cases o with
          | lst acc =>
            obtain ⟨xs, hx, rx⟩ := r7.gok p _ hg
            have e8 : Ext G7 H7 (updG G7 p (.lst (acc ++ [dy]))) (upd H7 p (.lst (xs ++ [y]))) := Ext.write hg
            refine ⟨xs, hx, by rw [rx.length]; exact h7.1, _, (e36.trans e7).trans e8, r7.gok.put e8 ⟨_, upd_same, (rx.append (repL_one v7)).ext e8⟩, h7.2⟩
          | dct _ => exact h7.elim
          | raw _ => exact h7.elim
          | ins _ _ => exact h7.elim
          | dtp _ => exact h7.elim
          | tab _ => exact h7.elim
          | slt _ _ => exact h7.elim
  · have e : i = items.length := by omega
    subst e
    rw [List.drop_length] at h3
    unfold dLcGo at h3
    refine .inl ⟨(it G2 H2 e13 g3 h3.1 _).2 rfl, k _ (.ref p) H2 G2 (e1.trans e13) (r3) (by unfold RepV; rfl) h3.2⟩
section
variable {X : Cx}
theorem de_lc {elt tg iter : Expr} {ifs : List Expr} {scope : Scope} {own : List (Str × Nat)} {pos : Pos} {wi : DTI} {ct : CT} {tt : DTT} {te : DTE} (hc : X.calm = true) (hN : X.N.Nodup) (hi : DI X tg iter wi) (ok : BlkOk X.N X.env.scope scope own)
    (hv : ∀ i ∈ ct.slots, i ∈ own.map (·.2))
    (hg : ∀ (s : Shared) (H : Hp) (C : Addr) (cl : List (Str × Addr)) (fp : List Addr), PG (X.blk s H scope (compEnvC scope cl C X.env) fp) tg (ct.gV X.K)) (ht : ∀ (s : Shared) (H : Hp) (C : Addr) (cl : List (Str × Addr)) (fp : List Addr), DTs (X.blk s H scope (compEnvC scope cl C X.env) fp) ifs tt)
    (he : ∀ (s : Shared) (H : Hp) (C : Addr) (cl : List (Str × Addr)) (fp : List Addr), DE (X.blk s H scope (compEnvC scope cl C X.env) fp) elt te) (hs : ∀ x, foldedSetIterable iter X.env x = pure x := by intro _; rfl) :
    DE X (.ListComp elt [⟨tg, iter, ifs, 0⟩] scope pos) (dLc wi ct tt te (own.map (·.2))) :=
  (pe_lc hc hN hi ok hg ht he hs).imp fun _ _ _ h => up_lc hv h
end

structure DX where
  cls : Str
  fs : List (Str × D)
abbrev DXK := DX → GH → Prop
abbrev DSp := List D → GH → DK → DXK → Prop
def ExcRep (K : PySem.W.Frag) (G : GH) (H : Hp) (x : DX) (c : Value) (od : Option Addr) : Prop := c = .ref (He.ga K x.cls) ∧ ∃ d ws, od = some d ∧ G d = none ∧ H d = some (.xd ws) ∧ ws.map (·.1) = x.fs.map (·.1) ∧ RepL K G H (x.fs.map (·.2)) (ws.map (·.2))
def toSp (K : PySem.W.Frag) (sp : DSp) : Sp := fun vs H Qv Ev => ∃ ds G Q E, RepL K G H ds vs ∧ GOk K G H ∧ sp ds G Q E ∧ (∀ v d H' G', Ext G H G' H' → GOk K G' H' → RepV K G' H' d v → Q d G' → Qv v H') ∧
  (∀ x c od H' G', Ext G H G' H' → GOk K G' H' → ExcRep K G' H' x c od → E x G' → Ev c od H')
abbrev noX : DXK := fun _ _ => False
structure GFn (P : Program) (w : World) (K : PySem.W.Frag) (mg : Str → Option Value) (base : Heap) (CX : CXT) (k : Nat) (f : Addr) (fd : FuncData) (ps : List Str) (sp : Sp) : Prop where
  arity : ∀ xs H Q E, sp xs H Q E → xs.length = ps.length
  go : ∀ (A : Around) (out : List Env) (st : Shared) (H : Hp) (ar : Args) (us : List Value) (xs : List V) (Q : VK) (E : XK), Room k A → A.guards = some [] → Env0 P w K mg base A out st H →
    BindsTo st fd ar (ps.zip us) → Vals xs us → sp xs H Q E → codeAny (model P w) A (.call (.ref f) ar) (CR CX out P w H st Q E) st
theorem GFn.up {P : Program} {w : World} {K : PySem.W.Frag} {mg : Str → Option Value} {base : Heap} {CX : CXT} {j k : Nat} {f : Addr} {fd : FuncData} {ps : List Str} {sp : Sp} (F : GFn P w K mg base CX j f fd ps sp) (h : j ≤ k) : GFn P w K mg base CX k f fd ps sp :=
  ⟨F.arity, fun A out st H ar us xs Q E hr => F.go A out st H ar us xs Q E (hr.mono h)⟩
theorem GFn.weaken {P : Program} {w : World} {K : PySem.W.Frag} {mg : Str → Option Value} {base : Heap} {CX : CXT} {k : Nat} {f : Addr} {fd : FuncData} {ps : List Str} {sp sp' : Sp} (F : GFn P w K mg base CX k f fd ps sp) (h : ∀ xs H Q E, sp' xs H Q E → sp xs H Q E) :
    GFn P w K mg base CX k f fd ps sp' :=
  ⟨fun xs H Q E q => F.arity xs H Q E (h _ _ _ _ q), fun A out st H ar us xs Q E hr hg he hb hv hs => F.go A out st H ar us xs Q E hr hg he hb hv (h _ _ _ _ hs)⟩
theorem gfn_of {CX : CXT} {P : Program} {w : World} {K : PySem.W.Frag} {mg : Str → Option Value} {base : Heap} {k : Nat} {f : Addr} {fd : FuncData} {x qual : Str} {params : Arguments} {body : List Stmt} {scope : Scope} {dvs : List V} {kws : List (Str × V)}
    {N ps : List Str} {sp : Sp} (F : FunD K x qual params body scope dvs kws f fd) (S : FnScope N ps scope) (len : ∀ xs H Q E, sp xs H Q E → xs.length = ps.length)
    (hbody : ∀ (cdv : Value) (A : Around) (out : List Env) (st : Shared) (H : Hp) (xs : List V) (Q : VK) (E : XK), Room k (A.deeper (PyProof.Rows.envOfC qual scope st.heap.objs.size f cdv)) → (A.deeper (PyProof.Rows.envOfC qual scope st.heap.objs.size f cdv)).guards = some [] →
      sp xs H Q E → ∃ t, PSs (cxOf CX P w K mg base N qual scope f cdv A out st H E) body t ∧ t { nx := fun _ H' => Q .non H', rt := Q } (L2.start N xs) H) : GFn P w K mg base CX (k + 1) f fd ps sp := by
  obtain ⟨oc, od, dV, kV, doc, pm, an, cdv, ct, osl, hfd, lk, hcd, _, _⟩ := F.ex
  subst hfd
  constructor
  · exact len
  intro A out st H ar us xs Q E hr hgd e0 hb rl hsp
  have kin : K.In st.heap := PySem.W.Frag.In.keeps e0.mod.kin (fun b o e => (e0.bs b o e).1)
  have nl : st.heap.NoLimit := Heap.NoLimit.keeps e0.mod.nolimit (fun b o e => (e0.bs b o e).1)
  have kinds : ∀ y ∈ ps.zip us, scope.names.lookup y.1 = some .local ∨ (scope.names.lookup y.1 = some .cell ∧ ((cellsFrom (st.heap.objs.size + 1) scope.names []).lookup y.1).isSome = true) := by
    rintro ⟨n, v⟩ hy
    cases S.par n (List.of_mem_zip hy).1 with
    | inl q => exact .inl q
    | inr q => exact .inr ⟨q, PySem.W.cellsFrom_some _ _ _ (.inl q)⟩
  refine PySem.codeAny_call_function hr.depth (kin _ _ lk) rfl S.co S.gen rfl (PySem.W.codeRec_of kin hcd) ?_
  refine hb _ _ _ _ ?_
  refine wpAny_newFunctionEnv_cells S.kind kinds ?_
  intro env he s1 ic
  subst he
  refine ⟨nl.keeps ic.toInCall.keep, PySem.codeAny_func ?_⟩
  have gd : (A.deeper (PyProof.Rows.envOfC qual scope st.heap.objs.size f cdv)).guards = some [] := hgd
  obtain ⟨t, ht, hq⟩ := hbody cdv A out st H xs Q E (hr.deeper _) gd hsp
  have inv := inv_start (CX := CX) (E := E) S hr.hd e0 (len _ _ _ _ hsp) rl ic
  refine wpAny_mono (ht.run [] s1 _ H _ inv hq) ?_ (fun _ _ z => z)
  intro fl s2 hs
  cases fl with
  | ret u => obtain ⟨v, σ2, H2, J, rv, q⟩ := hs; exact ⟨v, H2, J.os, J.bare, J.base, J.hok, rv, q⟩
  | next => obtain ⟨σ2, H2, J, q⟩ := hs; exact ⟨V.non, H2, J.os, J.bare, J.base, J.hok, rfl, q⟩
  | brk => obtain ⟨_, _, _, q⟩ := hs; exact q.elim
  | cont => obtain ⟨_, _, _, q⟩ := hs; exact q.elim
section
variable {X : Cx} {CX : CXT} {k : Nat} {f : Addr} {fd : FuncData} {ps : List Str} {x : Str} {p pos : Pos} {e : Expr} {es : List Expr} {E : XK}
theorem g_run {sp : Sp} {pins : List (Addr × Obj)} {σ : St} {H : Hp} {s : Shared} {Q : VK} {us : List Value} {xs : List V} (F : GFn X.prog X.w X.K X.mg X.base CX k f fd ps sp) (hr : Room k X.A) (hgd : X.A.guards = some []) (hb : Binds X.K fd ps []) (hx : Passes CX X E)
    (I : Inv X pins σ H s) (r : Vals xs us) (h : sp xs H Q E) : wpAny (model X.prog X.w) X.A (PySem.call (.ref f) us) (EP X pins σ Q) X.xe s := by
  have al : (us ++ []).length = ps.length := by rw [List.append_nil, ← r.length]; exact F.arity _ _ _ _ h
  have bd := hb s us I.kIn al
  rw [List.append_nil] at bd
  refine wpAny_call (codeAny_mono (F.go X.A X.stack s H ⟨us, []⟩ us xs Q E hr hgd I.env0 bd r h) ?_)
  intro res s2 hq
  match res, hq with
  | .error er, hq => exact hx pins σ H s er s2 I hq
  | .ok (.ret u), hq => exact I.after hq
theorem ge_call {sp : Sp} {t : TA} (F : GFn X.prog X.w X.K X.mg X.base CX k f fd ps sp) (hr : Room k X.A) (hgd : X.A.guards = some []) (hg : Gl X x) (hm : X.mg x = some (.ref f)) (hk : PySem.W.keepIn X.K (.ref f) = true) (hb : Binds X.K fd ps []) (hx : Passes CX X E)
    (ha : PA X (e :: es) t) (hdb : (x == ("__debug__" : Str)) = false := by decide) (he : starEach (e :: es) X.env = (false, eval e X.env) :: starEach es X.env := by rfl) (hpl : (backTo pos (starEach es X.env)).any (·.1) = false := by rfl) :
    PE X (.Call (.Name x p) (e :: es) [] pos) (fun σ H Q => t σ H fun vs H1 => sp vs H1 Q E) := by
  constructor
  intro pins s σ H Q I h
  refine wpAny_Call_Name_kw (ld_glob I hg hm ?_ hdb)
  refine PySem.W.callWith_K (h₀ := X.base) I.ok.mod.kin hk ?_ he hpl
  refine thn (ha.run pos pins s σ H _ I h) ?_
  rintro us s1 ⟨xs, H1, I1, r, q⟩
  exact ⟨I1.kIn, g_run F hr hgd hb hx I1 r q⟩
end
@[simp] def dCall (sp : DSp) (ta : DTA) : DTE := fun ρ G Q => ta ρ G fun ds G1 => sp ds G1 Q noX
abbrev DFn (P : Program) (w : World) (K : PySem.W.Frag) (mg : Str → Option Value) (base : Heap) (k : Nat) (f : Addr) (fd : FuncData) (ps : List Str) (sp : DSp) : Prop := GFn P w K mg base CX0 k f fd ps (toSp K sp)
section
variable {X : Cx} {k : Nat} {f : Addr} {fd : FuncData} {ps : List Str} {sp : DSp} {x : Str} {p pos : Pos} {e : Expr} {es : List Expr} {ta : DTA}
theorem sp_at {K : PySem.W.Frag} {σ : St} {H : Hp} {ρ : DSt} {G : GH} {Q : VK} {q : DK} {vs : List V} {ds : List D} (r : DRel K σ H ρ G) (v : RepL K G H ds vs) (h : sp ds G q noX) (k : ∀ v d H' G', Ext G H G' H' → DRel K σ H' ρ G' → RepV K G' H' d v → q d G' → Q v H') : toSp K sp vs H Q E0 :=
  ⟨ds, G, q, noX, v, r.gok, h, fun v d H' G' e2 g2 v2 h2 => k v d H' G' e2 (r.ext e2 g2) v2 h2, fun _ _ _ _ _ _ _ _ z => z.elim⟩
theorem de_call (F : DFn X.prog X.w X.K X.mg X.base k f fd ps sp) (hr : Room k X.A) (hgd : X.A.guards = some []) (hg : Gl X x) (hm : X.mg x = some (.ref f)) (hk : PySem.W.keepIn X.K (.ref f) = true) (hb : Binds X.K fd ps [])
    (ha : DA X (e :: es) ta) (hdb : (x == ("__debug__" : Str)) = false := by decide) (he : starEach (e :: es) X.env = (false, eval e X.env) :: starEach es X.env := by rfl) (hpl : (backTo pos (starEach es X.env)).any (·.1) = false := by rfl) :
    DE X (.Call (.Name x p) (e :: es) [] pos) (dCall sp ta) := (ge_call F hr hgd hg hm hk hb pass0 ha hdb he hpl).imp fun σ H Q ⟨ρ, G, q, r, h, k⟩ => by
  refine ⟨ρ, G, _, r, h, fun vs ds H1 G1 e1 r1 v1 h1 => ?_⟩
  exact sp_at r1 v1 h1 fun v d H' G' e2 r2 v2 h2 => k v d H' G' (e1.trans e2) r2 v2 h2
end
def startD (n : Nat) (ds : List D) : DSt := ds.map some ++ List.replicate (n - ds.length) none
theorem start_rel {K : PySem.W.Frag} {H : Hp} {G : GH} {N : List Str} {ds : List D} {vs : List V} (rl : RepL K G H ds vs) (g : GOk K G H) : DRel K (L2.start N vs) H (startD N.length ds) G := by
  have hl := rl.length
  refine ⟨by simp [L2.start, startD, hl], fun i d h => ?_, g⟩
  unfold startD at h
  by_cases hi : i < ds.length
  · rw [List.getElem?_append_left (by simpa using hi), List.getElem?_map] at h
    cases q : ds[i]? with
    | none => rw [q] at h; simp at h
    | some d' =>
      rw [q] at h
      simp at h
      subst h
      obtain ⟨v, e1, e2⟩ := rl.get q
      refine ⟨v, ?_, e2⟩
      unfold L2.start
      rw [List.getElem?_append_left (by simp [hl]; exact hi), List.getElem?_map, e1]
      rfl
  · rw [List.getElem?_append_right (by simpa using hi), List.getElem?_replicate] at h
    split at h <;> cases h
theorem dfn_of {P : Program} {w : World} {K : PySem.W.Frag} {mg : Str → Option Value} {base : Heap} {x qual : Str} {params : Arguments} {body : List Stmt} {scope : Scope} {dvs : List V} {kws : List (Str × V)} {f : Addr} {fd : FuncData}
    {N ps : List Str} {k : Nat} {sp : DSp} {t : DTS} (F : FunD K x qual params body scope dvs kws f fd) (S : FnScope N ps scope) (len : ∀ ds G Q E, sp ds G Q E → ds.length = ps.length)
    (hbody : ∀ (cdv : Value) (A : Around) (out : List Env) (st : Shared) (H : Hp) (E : XK), Room k (A.deeper (PyProof.Rows.envOfC qual scope st.heap.objs.size f cdv)) → (A.deeper (PyProof.Rows.envOfC qual scope st.heap.objs.size f cdv)).guards = some [] →
      DSs (cxOf CX0 P w K mg base N qual scope f cdv A out st H E).nox body t)
    (ok : ∀ ds G Q E, sp ds G Q E → t { nx := fun _ G' => Q .non G', rt := Q } (startD N.length ds) G) : DFn P w K mg base (k + 1) f fd ps sp := by
  refine gfn_of F S (fun vs H Q E h => ?_) fun cdv A outer s H vs Q E hr hg h => ⟨_, PSs.nox (hbody cdv A outer s H E hr hg), ?_⟩
  · obtain ⟨ds, G, q, e, rl, _, h, _⟩ := h
    rw [rl.length]
    exact len _ _ _ _ h
  · obtain ⟨ds, G, q, e, rl, g, h, kq, ke⟩ := h
    refine ⟨startD N.length ds, G, _, start_rel rl g, ok ds G q e h, ?_, ?_, ?_, ?_⟩
    · exact fun σ' ρ' H' G' e' r' h' => kq .non .non H' G' e' r'.gok (by unfold RepV; rfl) h'
    · exact fun v d H' G' e' g' v' h' => kq v d H' G' e' g' v' h'
    · exact fun _ _ _ _ _ _ z => z.elim
    · exact fun _ _ _ _ _ _ z => z.elim
end Dl

namespace Dl
open PySem L2

@[simp] def lsOf (G : GH) : D → Option (List D)
  | .lst ds => some ds
  | .ref a => (match G a with
    | some (.lst ds) => some ds
    | _ => none)
  | _ => none
@[simp] def sqOf (G : GH) : D → Option (List D)
  | .tup ds => some ds
  | .lst ds => some ds
  | .ref a => (match G a with
    | some (.lst ds) => some ds
    | _ => none)
  | _ => none
section
variable {K : PySem.W.Frag} {G : GH} {H : Hp} {d : D} {v : V} {ds : List D}
theorem ls_at (g : GOk K G H) (r : RepV K G H d v) (h : lsOf G d = some ds) : ∃ a xs, v = .ref a ∧ H a = some (.lst xs) ∧ RepL K G H ds xs := by
  cases d with
  | lst es =>
    simp only [lsOf, Option.some.injEq] at h
    subst h
    unfold RepV at r
    obtain ⟨a, xs, rfl, ta, rl⟩ := r
    exact ⟨a, xs, rfl, ta.2, rl⟩
  | ref a =>
    simp only [lsOf] at h
    unfold RepV at r
    subst r
    cases q : G a with
    | none => rw [q] at h; cases h
    | some o =>
      rw [q] at h
      cases o with
      | lst es =>
        simp only [Option.some.injEq] at h
        subst h
        obtain ⟨xs, h1, h2⟩ := g a _ q
        exact ⟨a, xs, rfl, h1, h2⟩
      | dct _ => cases h
      | raw _ => cases h
      | ins _ _ => cases h
      | dtp _ => cases h
      | tab _ => cases h
      | slt _ _ => cases h
  | _ => simp [lsOf] at h
theorem tp_at (r : RepV K G H (.tup ds) v) : ∃ a xs, v = .ref a ∧ SqT K H a xs ∧ RepL K G H ds xs := by
  unfold RepV at r
  obtain ⟨a, xs, rfl, ta, rl⟩ := r
  exact ⟨a, xs, rfl, ta.sq, rl⟩
theorem sq_at (g : GOk K G H) (r : RepV K G H d v) (h : sqOf G d = some ds) : ∃ a xs, v = .ref a ∧ (SqL K H a xs ∨ SqT K H a xs) ∧ RepL K G H ds xs := by
  cases d with
  | tup es =>
    simp only [sqOf, Option.some.injEq] at h
    subst h
    obtain ⟨a, xs, e, t, rl⟩ := tp_at r
    exact ⟨a, xs, e, .inr t, rl⟩
  | lst es =>
    obtain ⟨a, xs, e, t, rl⟩ := ls_at g r (ds := ds) h
    exact ⟨a, xs, e, .inl (SqL.of t), rl⟩
  | ref a =>
    obtain ⟨a, xs, e, t, rl⟩ := ls_at g r (ds := ds) h
    exact ⟨a, xs, e, .inl (SqL.of t), rl⟩
  | _ => simp [sqOf] at h
theorem rv_int {i : Int} (r : RepV K G H (.int i) v) : v = .int i := by unfold RepV at r; exact r
theorem rv_bl {i : Bool} (r : RepV K G H (.bl i) v) : v = .bl i := by unfold RepV at r; exact r
theorem rv_str {i : Str} (r : RepV K G H (.str i) v) : v = .str i := by unfold RepV at r; exact r
theorem rv_non (r : RepV K G H .non v) : v = .non := by unfold RepV at r; exact r
theorem rv_ref {a : Addr} (r : RepV K G H (.ref a) v) : v = .ref a := by unfold RepV at r; exact r
theorem int_rv {i : Int} : RepV K G H (.int i) (.int i) := by unfold RepV; rfl
theorem bl_rv {i : Bool} : RepV K G H (.bl i) (.bl i) := by unfold RepV; rfl
theorem str_rv {i : Str} : RepV K G H (.str i) (.str i) := by unfold RepV; rfl
theorem non_rv : RepV K G H .non .non := by unfold RepV; rfl
theorem ref_rv {a : Addr} : RepV K G H (.ref a) (.ref a) := by unfold RepV; rfl
theorem new_tup {p : Addr} {vs : List V} (g : GOk K G H) (hp : H p = none) (hv : RepL K G H ds vs) : Ext G H G (upd H p (.tup vs)) ∧ GOk K G (upd H p (.tup vs)) ∧ RepV K G (upd H p (.tup vs)) (.tup ds) (.ref p) := by
  have e : Ext G H G (upd H p (.tup vs)) := Ext.new hp
  refine ⟨e, g.new hp, ?_⟩
  unfold RepV
  exact ⟨p, vs, rfl, .inl ⟨g.fresh hp, upd_same⟩, hv.ext e⟩
theorem new_lst {p : Addr} {vs : List V} (g : GOk K G H) (hp : H p = none) (hv : RepL K G H ds vs) : Ext G H (updG G p (.lst ds)) (upd H p (.lst vs)) ∧ GOk K (updG G p (.lst ds)) (upd H p (.lst vs)) ∧ RepV K (updG G p (.lst ds)) (upd H p (.lst vs)) (.ref p) (.ref p) := by
  have e : Ext G H (updG G p (.lst ds)) (upd H p (.lst vs)) := Ext.newG hp
  exact ⟨e, g.put e ⟨vs, upd_same, hv.ext e⟩, ref_rv⟩
theorem put_lst {p : Addr} {vs : List V} {o : DO} (g : GOk K G H) (hp : G p = some o) (hv : RepL K G H ds vs) : Ext G H (updG G p (.lst ds)) (upd H p (.lst vs)) ∧ GOk K (updG G p (.lst ds)) (upd H p (.lst vs)) := by
  have e : Ext G H (updG G p (.lst ds)) (upd H p (.lst vs)) := Ext.write hp
  exact ⟨e, g.put e ⟨vs, upd_same, hv.ext e⟩⟩
end

@[simp] def rCatL (G : GH) (Q : DK) (a b : List D) : Prop := a.length + b.length ≤ sizeLine ∧ ∀ p, G p = none → Q (.ref p) (updG G p (.lst (a ++ b)))
@[simp] def rAdd : DR2 := fun x y G Q => match x with
  | .int i => (match y with
    | .int j => Q (.int (i + j)) G
    | _ => False)
  | .str a => (match y with
    | .str b => a.length + b.length ≤ sizeLine ∧ Q (.str (a ++ b)) G
    | _ => False)
  | .tup a => (match y with
    | .tup b => a.length + b.length ≤ sizeLine ∧ Q (.tup (a ++ b)) G
    | _ => False)
  | .lst a => (match lsOf G y with
    | some b => rCatL G Q a b
    | none => False)
  | .ref p => (match lsOf G (.ref p) with
    | some a => (match lsOf G y with
      | some b => rCatL G Q a b
      | none => False)
    | none => False)
  | _ => False
section
variable {X : Cx}
theorem cat_lists {pins : List (Addr × Obj)} {s : Shared} {σ : St} {H : Hp} {x y : V} {v u : Value} {Qv : VK} {G : GH} {dx dy : D} {q : DK} {a b : List D} (I : Inv X pins σ H s) (rx : RelV x v) (ry : RelV y u) (g : GOk X.K G H) (r1 : RepV X.K G H dx x) (r2 : RepV X.K G H dy y)
    (ha : lsOf G dx = some a) (hb : lsOf G dy = some b) (h : rCatL G q a b) (k : ∀ v d H' G', Ext G H G' H' → GOk X.K G' H' → RepV X.K G' H' d v → q d G' → Qv v H') : wpAny (model X.prog X.w) X.A (binaryOp .Add v u) (EP X pins σ Qv) X.xe s := by
  obtain ⟨l, xs, rfl, h1, l1⟩ := ls_at g r1 ha
  obtain ⟨m, ys, rfl, h2, l2⟩ := ls_at g r2 hb
  refine op_cat pins s σ H _ _ v u Qv I rx ry ⟨l, m, xs, ys, rfl, rfl, h1, h2, by rw [l1.length, l2.length]; exact h.1, fun p hp => ?_⟩
  obtain ⟨e, g', rv⟩ := new_lst g hp (l1.append l2)
  exact k _ _ _ _ e g' rv (h.2 p (g.fresh hp))
theorem o_add : DOp X (binaryOp .Add) rAdd := by
  intro pins s σ H x y v u Q I rx ry ⟨G, dx, dy, q, g, r1, r2, h, k⟩
  cases dx with
  | int i =>
    cases dy with
    | int j =>
      cases rv_int r1; cases rv_int r2
      exact op_add pins s σ H _ _ v u Q I rx ry ⟨i, j, rfl, rfl, k _ _ H G (Ext.refl G H) g int_rv h⟩
    | _ => exact h.elim
  | str a =>
    cases dy with
    | str b =>
      cases rv_str r1; cases rv_str r2
      exact op_add_str pins s σ H _ _ v u Q I rx ry ⟨a, b, rfl, rfl, h.1, k _ _ H G (Ext.refl G H) g str_rv h.2⟩
    | _ => exact h.elim
  | tup a =>
    cases dy with
    | tup b =>
      obtain ⟨l, xs, rfl, h1, l1⟩ := tp_at r1
      obtain ⟨m, ys, rfl, h2, l2⟩ := tp_at r2
      refine op_catA pins s σ H _ _ v u Q I rx ry ⟨l, m, xs, ys, rfl, rfl, h1, h2, by rw [l1.length, l2.length]; exact h.1, fun e => ?_, fun _ e => ?_, fun _ _ p hp => ?_⟩
      · have ea : a = [] := List.eq_nil_of_length_eq_zero (by rw [← l1.length, e]; rfl)
        subst ea
        exact k _ _ H G (Ext.refl G H) g r2 h.2
      · have ea : b = [] := List.eq_nil_of_length_eq_zero (by rw [← l2.length, e]; rfl)
        subst ea
        have h2 := h.2
        rw [List.append_nil] at h2
        exact k _ _ H G (Ext.refl G H) g r1 h2
      · obtain ⟨e, g', rv⟩ := new_tup g hp (l1.append l2)
        exact k _ _ _ _ e g' rv h.2
    | _ => exact h.elim
  | lst a =>
    dsimp only [rAdd] at h
    cases q2 : lsOf G dy with
    | none => rw [q2] at h; exact h.elim
    | some b => rw [q2] at h; exact cat_lists I rx ry g r1 r2 rfl q2 h k
  | ref p =>
    dsimp only [rAdd] at h
    cases q1 : lsOf G (.ref p) with
    | none => rw [q1] at h; exact h.elim
    | some a =>
      rw [q1] at h
      cases q2 : lsOf G dy with
      | none => rw [q2] at h; exact h.elim
      | some b => rw [q2] at h; exact cat_lists I rx ry g r1 r2 q1 q2 h k
  | _ => exact h.elim

@[simp] def rInt (C : Int → Int → Prop) (f : Int → Int → D) : DR2 := fun x y G Q => match x with
  | .int i => (match y with
    | .int j => C i j ∧ Q (f i j) G
    | _ => False)
  | _ => False
theorem o_int {f : Value → Value → Sem Value} {C : Int → Int → Prop} {g : Int → Int → Int} (ho : OpR X f (rI C fun i j => .int (g i j))) : DOp X f (rInt C fun i j => .int (g i j)) := by
  intro pins s σ H x y v u Q I rx ry ⟨G, dx, dy, q, g, r1, r2, h, k⟩
  cases dx with
  | int i =>
    cases dy with
    | int j =>
      cases rv_int r1; cases rv_int r2
      exact ho pins s σ H _ _ v u Q I rx ry ⟨i, j, rfl, rfl, h.1, k _ _ H G (Ext.refl G H) g int_rv h.2⟩
    | _ => exact h.elim
  | _ => exact h.elim
@[simp] def rInt0 (f : Int → Int → D) : DR2 := fun x y G Q => match x with
  | .int i => (match y with
    | .int j => Q (f i j) G
    | _ => False)
  | _ => False
theorem o_sub : DOp X (binaryOp .Sub) (rInt0 fun i j => .int (i - j)) := by
  intro pins s σ H x y v u Q I rx ry ⟨G, dx, dy, q, g, r1, r2, h, k⟩
  cases dx with
  | int i =>
    cases dy with
    | int j =>
      cases rv_int r1; cases rv_int r2
      exact op_sub pins s σ H _ _ v u Q I rx ry ⟨i, j, rfl, rfl, k _ _ H G (Ext.refl G H) g int_rv h⟩
    | _ => exact h.elim
  | _ => exact h.elim
theorem o_cmpI {f : Value → Value → Sem Value} {p : Int → Int → Bool} (ho : OpR X f (rI0 fun i j => .bl (p i j))) : DOp X f (rInt0 fun i j => .bl (p i j)) := by
  intro pins s σ H x y v u Q I rx ry ⟨G, dx, dy, q, g, r1, r2, h, k⟩
  cases dx with
  | int i =>
    cases dy with
    | int j =>
      cases rv_int r1; cases rv_int r2
      exact ho pins s σ H _ _ v u Q I rx ry ⟨i, j, rfl, rfl, k _ _ H G (Ext.refl G H) g bl_rv h⟩
    | _ => exact h.elim
  | _ => exact h.elim
abbrev rLt : DR2 := rInt0 fun i j => .bl (decide (i < j))
abbrev rLe : DR2 := rInt0 fun i j => .bl (decide (i ≤ j))
abbrev rGt : DR2 := rInt0 fun i j => .bl (decide (j < i))
abbrev rGe : DR2 := rInt0 fun i j => .bl (decide (j ≤ i))
theorem o_lt : DOp X (compareOp .Lt) rLt := o_cmpI op_lt
theorem o_le : DOp X (compareOp .LtE) rLe := o_cmpI op_le
theorem o_gt : DOp X (compareOp .Gt) rGt := o_cmpI op_gt
theorem o_ge : DOp X (compareOp .GtE) rGe := o_cmpI op_ge
abbrev rMod : DR2 := rInt (fun _ j => 0 < j) fun i j => .int (i % j)
abbrev rFdiv : DR2 := rInt CDiv fun i j => .int (i / j)
abbrev rPow : DR2 := rInt CPow fun i j => .int (i ^ j.toNat)
abbrev rSub : DR2 := rInt0 fun i j => .int (i - j)
theorem o_mod : DOp X (binaryOp .Mod) rMod := o_int op_mod
theorem o_fdiv : DOp X (binaryOp .FloorDiv) rFdiv := o_int op_fdiv
theorem o_pow : DOp X (binaryOp .Pow) rPow := o_int op_pow
end

section
open PySem.Spec PyProof.Rows
theorem tuple_mul0 (l : Addr) (items : Array Value) (n : Nat) (dd : Option Addr) (sl : Array (Option Value)) (x : Int) (u : Tok) (c0 : (decide (x < -(2 ^ 63)) || decide (x ≥ 2 ^ 63)) = false) (c1 : (items.isEmpty || x == 1) = false) (c2 : (decide (x ≤ 0) || items.isEmpty) = true) :
    Meets (Builtin.«tuple.__mul__» ⟨[.ref l, .int x u], []⟩) (fun _ R s => s.heap.get? l = some { cls := .type "tuple", dict := dd, data := .seq items n, slots := sl } ∧
      R (.ok (.ret (Value.ref s.heap.objs.size))) { s with heap := s.heap.push { cls := Value.type "tuple", data := Data.seq #[] }, toks := s.toks }) :=
  .of_wp fun prog w A R s h => by
    obtain ⟨hp, g, d, tk, os⟩ := s
    obtain ⟨hl, h⟩ := h
    have f1 := AutoSeq1.idx_int
    wp_walk using wpAny_loadPart' hl
    repeat (first
      | (refine wpAny_ite_false (decide_eq_false (by rw [c0]; exact Bool.false_ne_true)) ?_; wp_walk using wpAny_loadPart' hl)
      | (refine wpAny_ite_false (decide_eq_false (by rw [c1]; exact Bool.false_ne_true)) ?_; wp_walk using wpAny_loadPart' hl)
      | (refine wpAny_ite_true (decide_eq_true c2) ?_; wp_walk using wpAny_loadPart' hl))
    exact ⟨_, rfl, h⟩
theorem tuple_mul1 (l : Addr) (items : Array Value) (n : Nat) (dd : Option Addr) (sl : Array (Option Value)) (x : Int) (u : Tok) (c0 : (decide (x < -(2 ^ 63)) || decide (x ≥ 2 ^ 63)) = false) (c1 : (items.isEmpty || x == 1) = true) :
    Meets (Builtin.«tuple.__mul__» ⟨[.ref l, .int x u], []⟩) (fun _ R s => s.heap.get? l = some { cls := .type "tuple", dict := dd, data := .seq items n, slots := sl } ∧
      R (.ok (.ret (Value.ref l))) s) :=
  .of_wp fun prog w A R s h => by
    obtain ⟨hp, g, d, tk, os⟩ := s
    obtain ⟨hl, h⟩ := h
    have f1 := AutoSeq1.idx_int
    wp_walk using wpAny_loadPart' hl
    repeat (first
      | (refine wpAny_ite_false (decide_eq_false (by rw [c0]; exact Bool.false_ne_true)) ?_; wp_walk using wpAny_loadPart' hl)
      | (refine wpAny_ite_true (decide_eq_true c1) ?_; wp_walk using wpAny_loadPart' hl))
    exact ⟨_, rfl, h⟩
end
end Dl

namespace Dl
open PySem L2

section
open PySem.Spec PyProof.Rows
variable {X : Cx}
theorem tup_rep {pins : List (Addr × Obj)} {s : Shared} {σ : L2.St} {H : Hp} {l : Addr} {xs : List V} {k : Int} {t : Tok} {Q : VK} (I : Inv X pins σ H s) (hT : SqT X.K H l xs) (hk : -(2 ^ 63) ≤ k ∧ k < 2 ^ 63)
    (h : (xs = [] ∨ k = 1 → Q (.ref l) H) ∧ (xs ≠ [] → k ≤ 0 → ∀ p, H p = none → Q (.ref p) (upd H p (.tup [])))) (hc : xs = [] ∨ k ≤ 1) : wpAny (model X.prog X.w) X.A (binaryOp .Mult (.ref l) (.int k t)) (EP X pins σ Q) X.xe s := by
  obtain ⟨its, r, ⟨⟨cls, dd, data, sl⟩, ho, hcl, n, hd⟩, hs⟩ := I.tuple hT
  simp only at hcl hd
  subst hcl hd
  have hle : its.length = xs.length := r.length.symm
  have c0 : (decide (k < -(2 ^ 63)) || decide (k ≥ 2 ^ 63)) = false := by
    rw [decide_eq_false (by omega), decide_eq_false (by omega)] <;> rfl
  by_cases c1 : (its.toArray.isEmpty || k == 1) = true
  · refine wpAny_binaryOp_repeat_ref (T := "tuple") (U := "int") (by decide) ⟨_, ho, rfl⟩ (fun s' => typeIs_int s' k t) noFill_tuple_mul F.fills_int_mul F.slot_int_rmul repeat_tuple F.slot_int_index.lookup
      (call_meets F.slot_int_rmul (typeIs_int s k t) F.entry_int_rmul (F.args_int_rmul_2 _ _) (int_rmul_tuple k t l its.toArray n dd sl)
        ⟨ho, rfl, ⟨_, ho, rfl⟩, call_meets F.slot_tuple_mul ⟨_, ho, rfl⟩ F.entry_tuple_mul (F.args_tuple_mul_2 _ _) (tuple_mul1 l its.toArray n dd sl k t c0 c1) ⟨ho, ?_⟩⟩)
    refine ⟨.ref l, H, I, rfl, h.1 ?_⟩
    rw [Bool.or_eq_true] at c1
    rcases c1 with c1 | c1
    · refine .inl (List.eq_nil_of_length_eq_zero ?_)
      rw [← hle]
      simpa using c1
    · exact .inr (eq_of_beq c1)
  · have c1' : (its.toArray.isEmpty || k == 1) = false := by simpa using c1
    have hne : xs ≠ [] := fun e => by
      apply c1
      rw [e] at hle
      have : its = [] := List.eq_nil_of_length_eq_zero hle
      subst this
      rfl
    have hk1 : k ≠ 1 := fun e => by
      apply c1
      subst e
      simp
    have hk0 : k ≤ 0 := by
      rcases hc with e | e
      · exact absurd e hne
      · omega
    have c2 : (decide (k ≤ 0) || its.toArray.isEmpty) = true := by rw [decide_eq_true hk0] <;> rfl
    refine wpAny_binaryOp_repeat_ref (T := "tuple") (U := "int") (by decide) ⟨_, ho, rfl⟩ (fun s' => typeIs_int s' k t) noFill_tuple_mul F.fills_int_mul F.slot_int_rmul repeat_tuple F.slot_int_index.lookup
      (call_meets F.slot_int_rmul (typeIs_int s k t) F.entry_int_rmul (F.args_int_rmul_2 _ _) (int_rmul_tuple k t l its.toArray n dd sl)
        ⟨ho, rfl, ⟨_, ho, rfl⟩, call_meets F.slot_tuple_mul ⟨_, ho, rfl⟩ F.entry_tuple_mul (F.args_tuple_mul_2 _ _) (tuple_mul0 l its.toArray n dd sl k t c0 c1' c2) ⟨ho, ?_⟩⟩)
    have hf : H s.heap.objs.size = none := I.hok.fresh (Nat.le_refl _)
    refine ⟨.ref s.heap.objs.size, upd H s.heap.objs.size (.tup []), I.laid (t' := s.toks) (fun b u e => Heap.get?_push_of_some _ e) (Nat.le_refl _) ?_, rfl, h.2 hne hk0 _ hf⟩
    exact ⟨Nat.zero_le _, [], .nil, ⟨_, Heap.get?_push_size _ rfl, rfl, _, rfl⟩⟩
end
@[simp] def rRepL (G : GH) (Q : DK) (a : List D) (y : D) : Prop := match y with
  | .int k => -(2 ^ 63) ≤ k ∧ k < 2 ^ 63 ∧ a.length * k.toNat ≤ sizeLine ∧ ∀ p, G p = none → Q (.ref p) (updG G p (.lst (List.replicate k.toNat a).flatten))
  | _ => False
@[simp] def rMul : DR2 := fun x y G Q => match x with
  | .int i => (match y with
    | .int j => CMul i j ∧ Q (.int (i * j)) G
    | _ => False)
  | .tup a => (match y with
    | .int k => -(2 ^ 63) ≤ k ∧ k ≤ 1000 ∧ (a.length ≤ 1000 ∨ k ≤ 1) ∧ Q (.tup (List.replicate k.toNat a).flatten) G
    | _ => False)
  | .lst a => rRepL G Q a y
  | .ref p => (match lsOf G (.ref p) with
    | some a => rRepL G Q a y
    | none => False)
  | _ => False
section
variable {X : Cx}
theorem rep_list {pins : List (Addr × Obj)} {s : Shared} {σ : St} {H : Hp} {x y : V} {v u : Value} {Qv : VK} {G : GH} {dx dy : D} {q : DK} {a : List D} (I : Inv X pins σ H s) (rx : RelV x v) (ry : RelV y u) (g : GOk X.K G H) (r1 : RepV X.K G H dx x) (r2 : RepV X.K G H dy y)
    (ha : lsOf G dx = some a) (h : rRepL G q a dy) (k : ∀ v d H' G', Ext G H G' H' → GOk X.K G' H' → RepV X.K G' H' d v → q d G' → Qv v H') : wpAny (model X.prog X.w) X.A (binaryOp .Mult v u) (EP X pins σ Qv) X.xe s := by
  obtain ⟨l, xs, rfl, h1, l1⟩ := ls_at g r1 ha
  cases dy with
  | int j =>
    cases rv_int r2
    obtain ⟨h2, h3, h4, h5⟩ := h
    refine op_rep pins s σ H _ _ v u Qv I rx ry ⟨l, j, xs, rfl, rfl, h1, h2, h3, by rw [l1.length]; exact h4, fun p hp => ?_⟩
    obtain ⟨e, g', rv⟩ := new_lst g hp (l1.rep j.toNat)
    exact k _ _ _ _ e g' rv (h5 p (g.fresh hp))
  | _ => exact h.elim
theorem o_mul : DOp X (binaryOp .Mult) rMul := by
  intro pins s σ H x y v u Q I rx ry ⟨G, dx, dy, q, g, r1, r2, h, k⟩
  cases dx with
  | int i =>
    cases dy with
    | int j =>
      cases rv_int r1; cases rv_int r2
      exact op_mul pins s σ H _ _ v u Q I rx ry ⟨i, j, rfl, rfl, h.1, k _ _ H G (Ext.refl G H) g int_rv h.2⟩
    | _ => exact h.elim
  | tup a =>
    cases dy with
    | int j =>
      obtain ⟨l, xs, rfl, h1, l1⟩ := tp_at r1
      cases rv_int r2
      obtain ⟨h2, h3, h4, h5⟩ := h
      by_cases hc : xs = [] ∨ j ≤ 1
      · cases rx
        obtain ⟨t, rfl⟩ := ry
        refine tup_rep I h1 ⟨h2, by omega⟩ ⟨fun z => ?_, fun hne h0 p hp => ?_⟩ hc
        · refine k _ _ H G (Ext.refl G H) g ?_ h5
          have e : (List.replicate j.toNat a).flatten = a := by
            rcases z with z | z
            · have ea : a = [] := List.eq_nil_of_length_eq_zero (by rw [← l1.length, z]; rfl)
              subst ea
              simp
            · subst z
              simp
          rw [e]
          exact r1
        · have e : (List.replicate j.toNat a).flatten = [] := by
            have : j.toNat = 0 := by omega
            rw [this]; rfl
          rw [e] at h5
          obtain ⟨e1, g1, v1⟩ := new_tup (ds := []) (vs := []) g hp repL_nil
          exact k _ _ _ _ e1 g1 v1 h5
      · simp only [not_or] at hc
        refine op_repT pins s σ H _ _ v u Q I rx ry ⟨l, j, xs, rfl, rfl, h1, hc.1, by omega, h3, by rw [l1.length]; exact h4.resolve_right hc.2, fun p hp => ?_⟩
        obtain ⟨e1, g1, v1⟩ := new_tup g hp (l1.rep j.toNat)
        exact k _ _ _ _ e1 g1 v1 h5
    | _ => exact h.elim
  | lst a => exact rep_list I rx ry g r1 r2 rfl h k
  | ref p =>
    dsimp only [rMul] at h
    cases q1 : lsOf G (.ref p) with
    | none => rw [q1] at h; exact h.elim
    | some a => rw [q1] at h; exact rep_list I rx ry g r1 r2 q1 h k
  | _ => exact h.elim
end

mutual
def pyD : D → PyData
  | .non => .none
  | .bl b => .bool b
  | .int i => .int i
  | .str x => .str x
  | .tup ds => .tuple (pyDs ds)
  | .lst ds => .list (pyDs ds)
  | .byt _ => .none
  | .ref _ => .none
  | .scr _ => .none
  | .fn _ _ _ _ => .none
  | .exh _ _ _ _ _ => .none
def pyDs : List D → List PyData
  | [] => []
  | d :: ds => pyD d :: pyDs ds
end
mutual
/-- data with nothing but None, bools, ints, texts, tuples, frozen lists in it -/
def pureD : D → Bool
  | .non => true
  | .bl _ => true
  | .int _ => true
  | .str x => PyData.strOk x
  | .tup ds => pureDs ds
  | .lst ds => pureDs ds
  | _ => false
def pureDs : List D → Bool
  | [] => true
  | d :: ds => pureD d && pureDs ds
end
mutual
def depD : D → Nat
  | .tup ds => depDs ds + 1
  | .lst ds => depDs ds + 1
  | _ => 0
def depDs : List D → Nat
  | [] => 0
  | d :: ds => max (depD d) (depDs ds)
end
mutual
def eqvD : D → D → Bool
  | .non, .non => true
  | .bl a, .bl b => a == b
  | .bl a, .int j => (if a then 1 else 0) == j
  | .int i, .bl b => i == (if b then 1 else 0)
  | .int i, .int j => i == j
  | .str x, .str y => x == y
  | .tup a, .tup b => eqvDs a b
  | .lst a, .lst b => eqvDs a b
  | _, _ => false
def eqvDs : List D → List D → Bool
  | [], [] => true
  | x :: xs, y :: ys => eqvD x y && eqvDs xs ys
  | _, _ => false
end
mutual
theorem depth_py : ∀ d : D, (pyD d).depth = depD d
  | .non => by simp [pyD, depD, PyData.depth]
  | .bl _ => by simp [pyD, depD, PyData.depth]
  | .int _ => by simp [pyD, depD, PyData.depth]
  | .str _ => by simp [pyD, depD, PyData.depth]
  | .tup ds => by simp [pyD, depD, PyData.depth, depths_py ds]
  | .lst ds => by simp [pyD, depD, PyData.depth, depths_py ds]
  | .byt _ => by simp [pyD, depD, PyData.depth]
  | .ref _ => by simp [pyD, depD, PyData.depth]
  | .scr _ => by simp [pyD, depD, PyData.depth]
  | .fn _ _ _ _ => by simp [pyD, depD, PyData.depth]
  | .exh _ _ _ _ _ => by simp [pyD, depD, PyData.depth]
theorem depths_py : ∀ ds : List D, PyData.depthAll (pyDs ds) = depDs ds
  | [] => by simp [pyDs, depDs, PyData.depthAll]
  | d :: ds => by simp [pyDs, depDs, PyData.depthAll, depth_py d, depths_py ds]
end
mutual
theorem lay_py : ∀ d : D, pureD d = true → (pyD d).canLay0 = true
  | .non, _ => by simp [pyD, PyData.canLay0]
  | .bl _, _ => by simp [pyD, PyData.canLay0]
  | .int _, _ => by simp [pyD, PyData.canLay0]
  | .str x, h => by simpa [pyD, PyData.canLay0, pureD] using h
  | .tup ds, h => by simpa [pyD, PyData.canLay0] using lays_py ds (by simpa [pureD] using h)
  | .lst ds, h => by simpa [pyD, PyData.canLay0] using lays_py ds (by simpa [pureD] using h)
  | .byt _, h => by simp [pureD] at h
  | .ref _, h => by simp [pureD] at h
  | .scr _, h => by simp [pureD] at h
  | .fn _ _ _ _, h => by simp [pureD] at h
  | .exh _ _ _ _ _, h => by simp [pureD] at h
theorem lays_py : ∀ ds : List D, pureDs ds = true → PyData.canLayAll0 (pyDs ds) = true
  | [], _ => by simp [pyDs, PyData.canLayAll0]
  | d :: ds, h => by
    simp only [pureDs, Bool.and_eq_true] at h
    simp [pyDs, PyData.canLayAll0, lay_py d h.1, lays_py ds h.2]
end
mutual
theorem eqv_py : ∀ a b : D, pureD a = true → pureD b = true → PyData.eqv (pyD a) (pyD b) = eqvD a b
  | .tup xs, b, h, k => by
    cases b with
    | tup ys => simpa [pyD, PyData.eqv, eqvD] using eqvs_py xs ys (by simpa [pureD] using h) (by simpa [pureD] using k)
    | byt _ => simp [pureD] at k
    | ref _ => simp [pureD] at k
    | scr _ => simp [pureD] at k
    | fn _ _ _ _ => simp [pureD] at k
    | exh _ _ _ _ _ => simp [pureD] at k
    | _ => simp [pyD, PyData.eqv, eqvD]
  | .lst xs, b, h, k => by
    cases b with
    | lst ys => simpa [pyD, PyData.eqv, eqvD] using eqvs_py xs ys (by simpa [pureD] using h) (by simpa [pureD] using k)
    | byt _ => simp [pureD] at k
    | ref _ => simp [pureD] at k
    | scr _ => simp [pureD] at k
    | fn _ _ _ _ => simp [pureD] at k
    | exh _ _ _ _ _ => simp [pureD] at k
    | _ => simp [pyD, PyData.eqv, eqvD]
  | .non, b, h, k => by cases b <;> first | (simp [pureD] at k; done) | simp [pyD, PyData.eqv, eqvD]
  | .bl _, b, h, k => by cases b <;> first | (simp [pureD] at k; done) | simp [pyD, PyData.eqv, eqvD]
  | .int _, b, h, k => by cases b <;> first | (simp [pureD] at k; done) | simp [pyD, PyData.eqv, eqvD]
  | .str _, b, h, k => by
    cases b with
    | str _ => simp [pyD, PyData.eqv, eqvD]
    | byt _ => simp [pureD] at k
    | ref _ => simp [pureD] at k
    | scr _ => simp [pureD] at k
    | fn _ _ _ _ => simp [pureD] at k
    | exh _ _ _ _ _ => simp [pureD] at k
    | _ => simp [pyD, PyData.eqv, eqvD]
  | .byt _, _, h, _ => by simp [pureD] at h
  | .ref _, _, h, _ => by simp [pureD] at h
  | .scr _, _, h, _ => by simp [pureD] at h
  | .fn _ _ _ _, _, h, _ => by simp [pureD] at h
  | .exh _ _ _ _ _, _, h, _ => by simp [pureD] at h
theorem eqvs_py : ∀ a b : List D, pureDs a = true → pureDs b = true → PyData.eqvAll (pyDs a) (pyDs b) = eqvDs a b
  | [], [], _, _ => by simp [pyDs, PyData.eqvAll, eqvDs]
  | [], _ :: _, _, _ => by simp [pyDs, PyData.eqvAll, eqvDs]
  | _ :: _, [], _, _ => by simp [pyDs, PyData.eqvAll, eqvDs]
  | x :: xs, y :: ys, h, k => by
    simp only [pureDs, Bool.and_eq_true] at h k
    simp [pyDs, PyData.eqvAll, eqvDs, eqv_py x y h.1 k.1, eqvs_py xs ys h.2 k.2]
end
mutual
theorem dp_of {K : PySem.W.Frag} {G : GH} {H : Hp} : ∀ {d : D} {v : V}, RepV K G H d v → pureD d = true → Dp K H v (pyD d)
  | .non, v, h, _ => by cases rv_non h; simp only [pyD]; exact .non
  | .bl b, v, h, _ => by cases rv_bl h; simp only [pyD]; exact .bl b
  | .int i, v, h, _ => by cases rv_int h; simp only [pyD]; exact .int i
  | .str x, v, h, _ => by cases rv_str h; simp only [pyD]; exact .str x
  | .tup ds, v, h, k => by
    obtain ⟨a, xs, rfl, t, rl⟩ := tp_at h
    simp only [pyD]
    exact .tup t (dps_of rl (by simpa [pureD] using k))
  | .lst ds, v, h, k => by
    unfold RepV at h
    obtain ⟨a, xs, rfl, t, rl⟩ := h
    simp only [pyD]
    exact .lst t.sq (dps_of rl (by simpa [pureD] using k))
  | .byt _, _, _, k => by simp [pureD] at k
  | .ref _, _, _, k => by simp [pureD] at k
  | .scr _, _, _, k => by simp [pureD] at k
  | .fn _ _ _ _, _, _, k => by simp [pureD] at k
  | .exh _ _ _ _ _, _, _, k => by simp [pureD] at k
theorem dps_of {K : PySem.W.Frag} {G : GH} {H : Hp} : ∀ {ds : List D} {vs : List V}, RepL K G H ds vs → pureDs ds = true → DpAll K H vs (pyDs ds)
  | [], vs, h, _ => by unfold RepL at h; subst h; simp only [pyDs]; exact .nil
  | d :: ds, vs, h, k => by
    unfold RepL at h
    obtain ⟨x, r, rfl, h1, h2⟩ := h
    simp only [pureDs, Bool.and_eq_true] at k
    simp only [pyDs]
    exact .cons (dp_of h1 k.1) (dps_of h2 k.2)
end
@[simp] def vw (G : GH) : D → D
  | .ref a => (match G a with
    | some (.lst ds) => .lst ds
    | _ => .ref a)
  | d => d
theorem vw_dp {K : PySem.W.Frag} {G : GH} {H : Hp} {d : D} {v : V} (g : GOk K G H) (r : RepV K G H d v) (h : pureD (vw G d) = true) : Dp K H v (pyD (vw G d)) := by
  cases d with
  | ref a =>
    cases rv_ref r
    dsimp only [vw] at h ⊢
    cases q : G a with
    | none => rw [q] at h; simp [pureD] at h
    | some o =>
      rw [q] at h
      cases o with
      | lst ds =>
        obtain ⟨xs, h1, rl⟩ := g a _ q
        simp only [pyD]
        exact .lst (SqL.of h1) (dps_of rl (by simpa [pureD] using h))
      | dct _ => simp [pureD] at h
      | raw _ => simp [pureD] at h
      | ins _ _ => simp [pureD] at h
      | dtp _ => simp [pureD] at h
      | tab _ => simp [pureD] at h
      | slt _ _ => simp [pureD] at h
  | _ => exact dp_of r h
def okD (d : D) : Prop := pureD d = true ∧ depD d ≤ 64
theorem okD.shaped {d : D} (h : okD d) : SeqAt.shaped (pyD d) = true := by
  unfold SeqAt.shaped
  rw [Bool.and_eq_true]
  exact ⟨lay_py d h.1, decide_eq_true (by rw [depth_py]; exact h.2)⟩
@[simp] def rCmpG (f : Bool → Bool) (a b : D) (G : GH) (Q : DK) : Prop := okD a ∧ okD b ∧ Q (.bl (f (eqvD a b))) G
@[simp] def rCmp (f : Bool → Bool) : DR2 := fun x y G Q => match vw G x with
  | .str a => (match vw G y with
    | .str b => Q (.bl (f (decide (a = b)))) G
    | b => rCmpG f (.str a) b G Q)
  | .int a => (match vw G y with
    | .int b => Q (.bl (f (decide (a = b)))) G
    | b => rCmpG f (.int a) b G Q)
  | a => rCmpG f a (vw G y) G Q
abbrev rEqv : DR2 := rCmp id
abbrev rNev : DR2 := rCmp not
section
variable {X : Cx}
theorem rCmp_gen {f : Bool → Bool} {x y : D} {G : GH} {Q : DK} (h : rCmp f x y G Q) : (∃ a b, x = .str a ∧ y = .str b ∧ Q (.bl (f (decide (a = b)))) G) ∨ (∃ a b, x = .int a ∧ y = .int b ∧ Q (.bl (f (decide (a = b)))) G) ∨ rCmpG f (vw G x) (vw G y) G Q := by
  have hv : ∀ (d : D) (s : Str), vw G d = .str s → d = .str s := fun d s e => by
    cases d with
    | ref a => dsimp only [vw] at e; split at e <;> cases e
    | _ => exact e
  have hi : ∀ (d : D) (s : Int), vw G d = .int s → d = .int s := fun d s e => by
    cases d with
    | ref a => dsimp only [vw] at e; split at e <;> cases e
    | _ => exact e
  dsimp only [rCmp] at h
  cases e1 : vw G x with
  | str a =>
    rw [e1] at h
    cases e2 : vw G y with
    | str b => rw [e2] at h; exact .inl ⟨a, b, hv _ _ e1, hv _ _ e2, h⟩
    | _ => rw [e2] at h; exact .inr (.inr h)
  | int a =>
    rw [e1] at h
    cases e2 : vw G y with
    | int b => rw [e2] at h; exact .inr (.inl ⟨a, b, hi _ _ e1, hi _ _ e2, h⟩)
    | _ => rw [e2] at h; exact .inr (.inr h)
  | _ => rw [e1] at h; exact .inr (.inr h)
theorem o_eq (hu : X.A.units + 64 < cLine) : DOp X (compareOp .Eq) rEqv := by
  intro pins s σ H x y v u Q I rx ry ⟨G, dx, dy, q, g, r1, r2, h, k⟩
  rcases rCmp_gen h with ⟨a, b, rfl, rfl, h⟩ | ⟨a, b, rfl, rfl, h⟩ | ⟨h1, h2, h3⟩
  · cases rv_str r1; cases rv_str r2
    refine op_eq pins s σ H _ _ v u Q I rx ry ⟨rfl, k _ _ H G (Ext.refl G H) g ?_ h⟩
    rw [show decide (V.str a = V.str b) = decide (a = b) by simp]
    exact bl_rv
  · cases rv_int r1; cases rv_int r2
    refine op_eq pins s σ H _ _ v u Q I rx ry ⟨rfl, k _ _ H G (Ext.refl G H) g ?_ h⟩
    rw [show decide (V.int a = V.int b) = decide (a = b) by simp]
    exact bl_rv
  · refine op_eqD hu pins s σ H _ _ v u Q I rx ry ⟨_, _, vw_dp g r1 h1.1, vw_dp g r2 h2.1, h1.shaped, h2.shaped, k _ _ H G (Ext.refl G H) g ?_ h3⟩
    rw [eqv_py _ _ h1.1 h2.1]
    exact bl_rv
theorem o_ne (hu : X.A.units + 64 < cLine) : DOp X (compareOp .NotEq) rNev := by
  intro pins s σ H x y v u Q I rx ry ⟨G, dx, dy, q, g, r1, r2, h, k⟩
  rcases rCmp_gen h with ⟨a, b, rfl, rfl, h⟩ | ⟨a, b, rfl, rfl, h⟩ | ⟨h1, h2, h3⟩
  · cases rv_str r1; cases rv_str r2
    refine op_ne pins s σ H _ _ v u Q I rx ry ⟨rfl, k _ _ H G (Ext.refl G H) g ?_ h⟩
    rw [show decide (V.str a = V.str b) = decide (a = b) by simp]
    exact bl_rv
  · cases rv_int r1; cases rv_int r2
    refine op_ne pins s σ H _ _ v u Q I rx ry ⟨rfl, k _ _ H G (Ext.refl G H) g ?_ h⟩
    rw [show decide (V.int a = V.int b) = decide (a = b) by simp]
    exact bl_rv
  · refine op_neD hu pins s σ H _ _ v u Q I rx ry ⟨_, _, vw_dp g r1 h1.1, vw_dp g r2 h2.1, h1.shaped, h2.shaped, k _ _ H G (Ext.refl G H) g ?_ h3⟩
    rw [eqv_py _ _ h1.1 h2.1]
    exact bl_rv
end
end Dl

namespace Dl
open PySem L2

def flatD : D → Bool
  | .non => true
  | .bl _ => true
  | .int _ => true
  | .str _ => true
  | _ => false
theorem flat_rep {K : PySem.W.Frag} {G : GH} {H : Hp} {d : D} {v : V} (h : flatD d = true) (r : RepV K G H d v) : flatV v = true ∧ ∀ (e : D) (w : V), flatD e = true → RepV K G H e w → eqV w v = eqvD e d := by
  have key : ∀ (e : D) (w : V), flatD e = true → RepV K G H e w → (e = .non ∧ w = .non) ∨ (∃ b, e = .bl b ∧ w = .bl b) ∨ (∃ i, e = .int i ∧ w = .int i) ∨ ∃ x, e = .str x ∧ w = .str x := by
    intro e w he re
    cases e with
    | non => exact .inl ⟨rfl, rv_non re⟩
    | bl b => exact .inr (.inl ⟨b, rfl, rv_bl re⟩)
    | int b => exact .inr (.inr (.inl ⟨b, rfl, rv_int re⟩))
    | str b => exact .inr (.inr (.inr ⟨b, rfl, rv_str re⟩))
    | _ => simp [flatD] at he
  rcases key d v h r with ⟨rfl, rfl⟩ | ⟨b, rfl, rfl⟩ | ⟨b, rfl, rfl⟩ | ⟨b, rfl, rfl⟩ <;> refine ⟨rfl, fun e w he re => ?_⟩ <;>
    rcases key e w he re with ⟨rfl, rfl⟩ | ⟨c, rfl, rfl⟩ | ⟨c, rfl, rfl⟩ | ⟨c, rfl, rfl⟩ <;> simp [eqV, eqvD]
def inD (x : D) (ds : List D) : Bool := ds.any fun y => eqvD y x
@[simp] def rInn (f : Bool → Bool) : DR2 := fun x y G Q => match sqOf G y with
  | some ds => flatD x = true ∧ ds.all flatD = true ∧ Q (.bl (f (inD x ds))) G
  | none => False
theorem flats_rep {K : PySem.W.Frag} {G : GH} {H : Hp} {d : D} {v : V} (h : flatD d = true) (r : RepV K G H d v) : ∀ {ds : List D} {xs : List V}, RepL K G H ds xs → ds.all flatD = true → xs.all flatV = true ∧ inV v xs = inD d ds
  | [], xs, rl, _ => by unfold RepL at rl; subst rl; exact ⟨rfl, rfl⟩
  | e :: ds, xs, rl, ha => by
    unfold RepL at rl
    obtain ⟨x, t, rfl, h1, h2⟩ := rl
    simp only [List.all_cons, Bool.and_eq_true] at ha
    obtain ⟨i1, i2⟩ := flats_rep h r h2 ha.2
    obtain ⟨f1, _⟩ := flat_rep ha.1 h1
    have f2 := (flat_rep h r).2 e x ha.1 h1
    refine ⟨by simp [f1, i1], ?_⟩
    unfold inV inD at i2 ⊢
    simp only [List.any_cons]
    rw [f2, i2]
section
variable {X : Cx}
theorem o_in : DOp X (compareOp .In) (rInn id) := by
  intro pins s σ H x y v u Q I rx ry ⟨G, dx, dy, q, g, r1, r2, h, k⟩
  dsimp only [rInn] at h
  cases e : sqOf G dy with
  | none => rw [e] at h; exact h.elim
  | some ds =>
    rw [e] at h
    obtain ⟨a, xs, rfl, hs, rl⟩ := sq_at g r2 e
    obtain ⟨h1, h2, h3⟩ := h
    obtain ⟨f1, f2⟩ := flats_rep h1 r1 rl h2
    refine op_in_seq pins s σ H _ _ v u Q I rx ry ⟨a, xs, rfl, hs, (flat_rep h1 r1).1, f1, k _ _ H G (Ext.refl G H) g ?_ h3⟩
    rw [f2]
    exact bl_rv
end
@[simp] def isNonD : D → Bool
  | .non => true
  | _ => false
@[simp] def rIsN (f : Bool → Bool) : DR2 := fun x y G Q => match y with
  | .non => Q (.bl (f (isNonD x))) G
  | _ => False
section
variable {X : Cx}
end

theorem atI_rep {K : PySem.W.Frag} {G : GH} {H : Hp} {ds : List D} {xs : List V} {i : Int} {d : D} (rl : RepL K G H ds xs) (h : atI ds i = some d) : ∃ v, atI xs i = some v ∧ RepV K G H d v := by
  unfold atI at h ⊢
  rw [rl.length]
  cases e : ixN ds.length i with
  | none => rw [e] at h; cases h
  | some j =>
    rw [e] at h
    exact rl.get h
@[simp] def rIx : DR2 := fun x y G Q => match y with
  | .int i => (match sqOf G x with
    | some ds => (match atI ds i with
      | some d => Q d G
      | none => False)
    | none => False)
  | _ => False
section
variable {X : Cx}
theorem x_ix : IxR X (upR X.K rIx) := by
  intro ve sx pins s σ H x y v u Q I rx ry ⟨G, dx, dy, q, g, r1, r2, h, k⟩ hsub
  cases dy with
  | int i =>
    cases rv_int r2
    dsimp only [rIx] at h
    cases e : sqOf G dx with
    | none => rw [e] at h; exact h.elim
    | some ds =>
      rw [e] at h
      dsimp only at h
      obtain ⟨a, xs, rfl, hs, rl⟩ := sq_at g r1 e
      cases e2 : atI ds i with
      | none => rw [e2] at h; exact h.elim
      | some d =>
        rw [e2] at h
        obtain ⟨w, hw, rw'⟩ := atI_rep rl e2
        refine (ix_list.or ix_tup) ve sx pins s σ H _ _ v u Q I rx ry ?_ hsub
        rcases hs with hs | hs
        · exact .inl ⟨a, xs, i, w, rfl, rfl, hs, hw, k _ _ H G (Ext.refl G H) g rw' h⟩
        · exact .inr ⟨a, xs, i, w, rfl, rfl, hs, hw, k _ _ H G (Ext.refl G H) g rw' h⟩
  | _ => exact h.elim
theorem de_ix {a b : Expr} {ta tb : DTE} {pos : Pos} (ha : DE X a ta) (hb : DE X b tb) (hs : PlainIx b := by exact fun _ _ => rfl) : DE X (.Subscript a b pos) (dOp rIx ta tb) := (pe_ix x_ix ha hb hs).imp fun _ _ _ h => up_op h

end
@[simp] def keyD : D → Option Key
  | .int i => some (.inl i)
  | .str x => some (.inr x)
  | _ => none
def getK : List (Key × D) → Key → Option D
  | [], _ => none
  | p :: r, k => if p.1 = k then some p.2 else getK r k
def putD (kvs : List (Key × D)) (k : Key) (d : D) : List (Key × D) :=
  if (kvs.any fun kv => decide (kv.1 = k)) = true then kvs.map (fun kv => if kv.1 = k then (kv.1, d) else kv) else kvs ++ [(k, d)]
theorem key_rep {K : PySem.W.Frag} {G : GH} {H : Hp} {d : D} {v : V} {k : Key} (r : RepV K G H d v) (h : keyD d = some k) : v = kV k := by
  cases d with
  | int i => simp only [keyD, Option.some.injEq] at h; subst h; exact rv_int r
  | str i => simp only [keyD, Option.some.injEq] at h; subst h; exact rv_str r
  | _ => simp [keyD] at h
theorem getK_rep {K : PySem.W.Frag} {G : GH} {H : Hp} {k : Key} : ∀ {kvs : List (Key × D)} {ws : List (Key × V)}, ws.map (·.1) = kvs.map (·.1) → RepL K G H (kvs.map (·.2)) (ws.map (·.2)) → match getK kvs k with
    | some d => ∃ v, valV ws k = some v ∧ RepV K G H d v
    | none => valV ws k = none
  | [], [], _, _ => rfl
  | [], _ :: _, e, _ => by simp at e
  | _ :: _, [], e, _ => by simp at e
  | p :: kvs, q :: ws, e, rl => by
    simp only [List.map_cons, List.cons.injEq] at e
    simp only [List.map_cons] at rl
    unfold RepL at rl
    obtain ⟨x, r, e2, h1, h2⟩ := rl
    simp only [List.cons.injEq] at e2
    obtain ⟨e3, e4⟩ := e2
    subst e3
    rw [← e4] at h2
    have ih := getK_rep (k := k) e.2 h2
    unfold getK
    by_cases hk : p.1 = k
    · rw [if_pos hk]
      exact ⟨q.2, valV_pos (e.1.trans hk), h1⟩
    · rw [if_neg hk]
      cases q2 : getK kvs k with
      | none => rw [q2] at ih; exact (valV_neg (fun z => hk (e.1.symm.trans z))).trans ih
      | some d =>
        rw [q2] at ih
        obtain ⟨v, i1, i2⟩ := ih
        exact ⟨v, (valV_neg (fun z => hk (e.1.symm.trans z))).trans i1, i2⟩
theorem putD_rep {K : PySem.W.Frag} {G : GH} {H : Hp} {k : Key} {d : D} {v : V} (rv : RepV K G H d v) {kvs : List (Key × D)} {ws : List (Key × V)} (e : ws.map (·.1) = kvs.map (·.1)) (rl : RepL K G H (kvs.map (·.2)) (ws.map (·.2))) :
    (putK ws k v).map (·.1) = (putD kvs k d).map (·.1) ∧ RepL K G H ((putD kvs k d).map (·.2)) ((putK ws k v).map (·.2)) := by
  have hany : (ws.any fun kv => decide (kv.1 = k)) = kvs.any fun kv => decide (kv.1 = k) := by
    have : ∀ (l : List (Key × V)), (l.any fun kv => decide (kv.1 = k)) = (l.map (·.1)).any fun z => decide (z = k) := fun l => by simp [List.any_map, Function.comp_def]
    have h2 : ∀ (l : List (Key × D)), (l.any fun kv => decide (kv.1 = k)) = (l.map (·.1)).any fun z => decide (z = k) := fun l => by simp [List.any_map, Function.comp_def]
    rw [this, h2, e]
  unfold putK putD
  rw [hany]
  by_cases ha : (kvs.any fun kv => decide (kv.1 = k)) = true
  · rw [if_pos ha, if_pos ha]
    clear hany ha
    induction kvs generalizing ws with
    | nil =>
      cases ws with
      | nil => exact ⟨rfl, repL_nil⟩
      | cons q ws => simp at e
    | cons p kvs ih =>
      cases ws with
      | nil => simp at e
      | cons q ws =>
        simp only [List.map_cons, List.cons.injEq] at e
        simp only [List.map_cons] at rl
        unfold RepL at rl
        obtain ⟨x, r, e2, h1, h2⟩ := rl
        simp only [List.cons.injEq] at e2
        obtain ⟨e3, e4⟩ := e2
        subst e3
        rw [← e4] at h2
        obtain ⟨i1, i2⟩ := ih e.2 h2
        simp only [List.map_cons]
        by_cases hk : p.1 = k
        · rw [if_pos hk, if_pos (e.1.trans hk)]
          exact ⟨by rw [i1, e.1], repL_cons rv i2⟩
        · rw [if_neg hk, if_neg (fun z => hk (e.1.symm.trans z))]
          exact ⟨by rw [i1, e.1], repL_cons h1 i2⟩
  · rw [if_neg ha, if_neg ha]
    simp only [List.map_append, List.map_cons, List.map_nil]
    exact ⟨by rw [e], rl.append (repL_one rv)⟩
@[simp] def dctP (G : GH) (x : D) (P : Addr → List (Key × D) → Prop) : Prop := match x with
  | .ref a => (match G a with
    | some (.dct kvs) => P a kvs
    | _ => False)
  | _ => False
@[simp] def keyP (y : D) (P : Key → Prop) : Prop := match keyD y with
  | some k => P k
  | none => False
@[simp] def dDGet (td ty : DTE) : DTE := fun ρ G Q => td ρ G fun x G1 => ty ρ G1 fun y G2 => dctP G2 x fun _ kvs => keyP y fun k => match getK kvs k with
  | some d => Q d G2
  | none => False
@[simp] def sDct : DSet := fun o i d G Q => dctP G o fun a kvs => keyP i fun k => kvs.length < sizeLine ∧ Q (updG G a (.dct (putD kvs k d)))
theorem keyP_of {y : D} {P : Key → Prop} (h : keyP y P) : ∃ k, keyD y = some k ∧ P k := by
  unfold keyP at h
  split at h
  · exact ⟨_, by assumption, h⟩
  · exact h.elim
theorem dct_of {K : PySem.W.Frag} {G : GH} {H : Hp} {x : D} {v : V} {P : Addr → List (Key × D) → Prop} (g : GOk K G H) (r : RepV K G H x v) (h : dctP G x P) :
    ∃ a kvs ws, x = .ref a ∧ v = .ref a ∧ G a = some (.dct kvs) ∧ P a kvs ∧ H a = some (.dK ws) ∧ ws.map (·.1) = kvs.map (·.1) ∧ RepL K G H (kvs.map (·.2)) (ws.map (·.2)) := by
  cases x with
  | ref a =>
    dsimp only [dctP] at h
    cases q : G a with
    | none => rw [q] at h; exact h.elim
    | some o =>
      rw [q] at h
      cases o with
      | dct kvs =>
        obtain ⟨ws, h1, h2, h3⟩ := g a _ q
        exact ⟨a, kvs, ws, rfl, rv_ref r, q, h, h1, h2, h3⟩
      | _ => exact h.elim
  | _ => exact h.elim
section
variable {X : Cx}
theorem de_dget {o i : Expr} {td ty : DTE} {pos : Pos} (hu : X.A.units + 1 < cLine) (ho : DE X o td) (hi : DE X i ty) (hs : NoSl i := by exact fun _ _ => rfl) : DE X (.Subscript o i pos) (dDGet td ty) := by
  refine (pe_dget hu ho hi hs).imp fun σ H Q ⟨ρ, G, q, r, h, k⟩ => ?_
  refine ⟨ρ, G, _, r, h, fun x dx H1 G1 e1 r1 v1 h1 => ?_⟩
  refine ⟨ρ, G1, _, r1, h1, fun y dy H2 G2 e2 r2 v2 h2 => ?_⟩
  obtain ⟨a, kvs, ws, rfl, rfl, hg, h2, w1, w2, w3⟩ := dct_of r2.gok (v1.ext e2) h2
  obtain ⟨kk, hk, h2⟩ := keyP_of h2
  cases key_rep v2 hk
  have gr := getK_rep (k := kk) w2 w3
  cases hd : getK kvs kk with
  | none => rw [hd] at h2; exact h2.elim
  | some d =>
    rw [hd] at h2 gr
    obtain ⟨w, e3, rw'⟩ := gr
    refine ⟨a, w, rfl, ?_, k w d H2 G2 (e1.trans e2) r2 rw' h2⟩
    rw [← e3]
    exact DGet.k w1
theorem set_dct (hu : X.A.units + 1 < cLine) : PSet X (upSet X.K sDct) := by
  intro pins s σ H o i v ov iv u Q I ro ri rv ⟨G, dO, di, d, q, g, r1, r2, r3, h, k⟩
  obtain ⟨a, kvs, ws, rfl, rfl, hg, h2, w1, w2, w3⟩ := dct_of g r1 h
  obtain ⟨kk, hk, h2⟩ := keyP_of h2
  cases key_rep r2 hk
  obtain rfl : ov = Value.ref a := ro
  have hl : ws.length = kvs.length := by simpa using congrArg List.length w2
  have e : Ext G H (updG G a (.dct (putD kvs kk d))) (upd H a (.dK (putK ws kk v))) := Ext.write hg
  obtain ⟨p1, p2⟩ := putD_rep (k := kk) r3 w2 w3
  refine d_setItem hu I (DPut.k (k := kk) w1 (by rw [hl]; exact h2.1)) ri rv fun s4 I4 => ⟨_, I4, ?_⟩
  exact k _ _ e (g.put e ⟨_, upd_same, p1, p2.ext e⟩) h2.2
end
@[simp] def lstP (G : GH) (x : D) (P : Addr → List D → Prop) : Prop := match x with
  | .ref a => (match G a with
    | some (.lst ds) => P a ds
    | _ => False)
  | _ => False
theorem lst_of {K : PySem.W.Frag} {G : GH} {H : Hp} {x : D} {v : V} {P : Addr → List D → Prop} (g : GOk K G H) (r : RepV K G H x v) (h : lstP G x P) : ∃ a ds xs, x = .ref a ∧ v = .ref a ∧ G a = some (.lst ds) ∧ P a ds ∧ H a = some (.lst xs) ∧ RepL K G H ds xs := by
  cases x with
  | ref a =>
    dsimp only [lstP] at h
    cases q : G a with
    | none => rw [q] at h; exact h.elim
    | some o =>
      rw [q] at h
      cases o with
      | lst ds =>
        obtain ⟨ws, h1, h2⟩ := g a _ q
        exact ⟨a, ds, ws, rfl, rv_ref r, q, h, h1, h2⟩
      | _ => exact h.elim
  | _ => exact h.elim
section
variable {X : Cx}
end
abbrev DTO := DSt → GH → (Option Int → GH → Prop) → Prop
def upO (K : PySem.W.Frag) (t : DTO) : TO := fun σ H Qv => ∃ ρ G Q, DRel K σ H ρ G ∧ t ρ G Q ∧ ∀ o H' G', Ext G H G' H' → DRel K σ H' ρ G' → Q o G' → Qv o H'
abbrev DO' (X : Cx) (e : Option Expr) (t : DTO) : Prop := PO X e (upO X.K t)
@[simp] def dNoP : DTO := fun _ G Q => Q none G
@[simp] def dP (t : DTE) : DTO := fun ρ G Q => t ρ G fun d G1 => match d with
  | .int i => Q (some i) G1
  | _ => False
def cutD (xs : List D) (lo hi : Option Int) : List D := (xs.drop (HT.sIx xs.length 0 lo)).take (HT.sIx xs.length xs.length hi - HT.sIx xs.length 0 lo)
theorem cut_rep {K : PySem.W.Frag} {G : GH} {H : Hp} {ds : List D} {xs : List V} (rl : RepL K G H ds xs) (lo hi : Option Int) : RepL K G H (cutD ds lo hi) (cutV xs lo hi) := by
  unfold cutD cutV
  rw [rl.length]
  exact (rl.drop _).take _
@[simp] def rSl : D → Option Int → Option Int → GH → DK → Prop := fun x lo hi G Q => match x with
  | .tup ds => Q (.tup (cutD ds lo hi)) G
  | .scr ns => ∀ p, G p = none → Q (.ref p) (updG G p (.lst (cutD (ns.map D.int) lo hi)))
  | .lst ds => ∀ p, G p = none → Q (.ref p) (updG G p (.lst (cutD ds lo hi)))
  | .ref a => (match G a with
    | some (.lst ds) => ∀ p, G p = none → Q (.ref p) (updG G p (.lst (cutD ds lo hi)))
    | _ => False)
  | _ => False
def upSl (K : PySem.W.Frag) (r : D → Option Int → Option Int → GH → DK → Prop) : V → Option Int → Option Int → Hp → VK → Prop := fun x lo hi H Qv => ∃ (G : GH) (d : D) (Q : DK), GOk K G H ∧ RepV K G H d x ∧ r d lo hi G Q ∧ ∀ v d H' G', Ext G H G' H' → GOk K G' H' → RepV K G' H' d v → Q d G' → Qv v H'
@[simp] def dSl (te : DTE) (tl th : DTO) : DTE := fun ρ G Q => te ρ G fun x G1 => tl ρ G1 fun l G2 => th ρ G2 fun u G3 => rSl x l u G3 Q
section
variable {X : Cx}
theorem PO.imp {e : Option Expr} {t t' : TO} (h : PO X e t) (i : ∀ σ H Q, t' σ H Q → t σ H Q) : PO X e t' := ⟨fun pins s σ H Q I q => h.run pins s σ H Q I (i σ H Q q)⟩
theorem do_none : DO' X none dNoP := PO.imp po_none fun σ H Q ⟨ρ, G, q, r, h, k⟩ => k none H G (Ext.refl G H) r h
theorem do_some {e : Expr} {te : DTE} (h : DE X e te) : DO' X (some e) (dP te) := PO.imp (po_some h) fun σ H Q ⟨ρ, G, q, r, h, k⟩ => by
  refine ⟨ρ, G, _, r, h, fun x dx H1 G1 e1 r1 v1 h1 => ?_⟩
  cases dx with
  | int i => cases rv_int v1; exact ⟨i, rfl, k (some i) H1 G1 e1 r1 h1⟩
  | _ => exact h1.elim
theorem sl_all : SlR X (upSl X.K rSl) := by
  intro pins s σ H x v vl vu lo hi sl Q I rx hs pl pu ⟨G, d, q, g, r, h, k⟩
  have lcase : ∀ (a : Addr) (xs : List V) (ds : List D), x = .ref a → SqL X.K H a xs → RepL X.K G H ds xs → (∀ p, G p = none → q (.ref p) (updG G p (.lst (cutD ds lo hi)))) →
      ∃ T id, typeLookup (.type T) "__getitem__" = pure (some (.builtin id)) ∧ s.TypeIs v T ∧ wpAny (model X.prog X.w) X.A (getItem v (.ref sl)) (EP X pins σ Q) X.xe s := by
    intro a xs ds e hq rl hk
    refine sl_list pins s σ H x v vl vu lo hi sl Q I rx hs pl pu ⟨a, xs, e, hq, fun p hp => ?_⟩
    obtain ⟨e1, g1, v1⟩ := new_lst g hp (cut_rep rl lo hi)
    exact k _ _ _ _ e1 g1 v1 (hk p (g.fresh hp))
  cases d with
  | tup ds =>
    obtain ⟨a, xs, e, t, rl⟩ := tp_at r
    refine sl_tupA pins s σ H x v vl vu lo hi sl Q I rx hs pl pu ⟨a, xs, e, t, fun z => ?_, fun z p hp => ?_⟩
    · have e2 : cutD ds lo hi = ds := by
        unfold cutD
        rw [← rl.length, z.1, z.2]
        simp [rl.length]
      subst e
      refine k _ _ H G (Ext.refl G H) g ?_ h
      rw [e2]
      exact r
    · obtain ⟨e1, g1, v1⟩ := new_tup g hp (cut_rep rl lo hi)
      exact k _ _ _ _ e1 g1 v1 h
  | scr ns =>
    unfold RepV at r
    obtain ⟨a, e, t⟩ := r
    exact lcase a _ _ e t.sq repL_of_ints h
  | lst ds =>
    unfold RepV at r
    obtain ⟨a, xs, e, t, rl⟩ := r
    exact lcase a xs ds e t.sq rl h
  | ref a =>
    cases rv_ref r
    dsimp only [rSl] at h
    cases hg : G a with
    | none => rw [hg] at h; exact h.elim
    | some o =>
      rw [hg] at h
      cases o with
      | lst ds =>
        obtain ⟨xs, h1, h2⟩ := g a _ hg
        exact lcase a xs ds rfl (SqL.of h1) h2 h
      | _ => exact h.elim
  | _ => exact h.elim
theorem de_slice {e : Expr} {lo hi : Option Expr} {te : DTE} {tl th : DTO} {p2 pos : Pos} (he : DE X e te) (hl : DO' X lo tl) (hh : DO' X hi th) : DE X (.Subscript e (.Slice lo hi none p2) pos) (dSl te tl th) := by
  refine (pe_slice sl_all he hl hh).imp fun σ H Q ⟨ρ, G, q, r, h, k⟩ => ?_
  refine ⟨ρ, G, _, r, h, fun x dx H1 G1 e1 r1 v1 h1 => ?_⟩
  refine ⟨ρ, G1, _, r1, h1, fun l H2 G2 e2 r2 h2 => ?_⟩
  refine ⟨ρ, G2, _, r2, h2, fun u H3 G3 e3 r3 h3 => ?_⟩
  exact ⟨G3, dx, q, r3.gok, v1.ext (e2.trans e3), h3, fun v d H' G' e4 g4 v4 h4 => k v d H' G' (((e1.trans e2).trans e3).trans e4) (r3.ext e4 g4) v4 h4⟩
end
end Dl

namespace Dl
open PySem L2

abbrev DRC := List D → GH → DK → Prop
def upC (K : PySem.W.Frag) (r : DRC) : List V → Hp → VK → Prop := fun xs H Qv => ∃ (G : GH) (ds : List D) (Q : DK), GOk K G H ∧ RepL K G H ds xs ∧ r ds G Q ∧ ∀ v d H' G', Ext G H G' H' → GOk K G' H' → RepV K G' H' d v → Q d G' → Qv v H'
abbrev DCall (X : Cx) (f : Value) (r : DRC) : Prop := CallR X f (upC X.K r)
@[simp] def dCB (r : DRC) (t : DTA) : DTE := fun ρ G Q => t ρ G fun ds G1 => r ds G1 Q
theorem up_cb {K : PySem.W.Frag} {r : DRC} {t : DTA} {σ : St} {H : Hp} {Q : VK} (h : up K (dCB r t) σ H Q) : tCB (upC K r) (upA K t) σ H Q := by
  obtain ⟨ρ, G, q, r0, h, k⟩ := h
  refine ⟨ρ, G, _, r0, h, fun vs ds H1 G1 e1 r1 v1 h1 => ?_⟩
  exact ⟨G1, ds, q, r1.gok, v1, h1, fun v d H' G' e2 g2 v2 h2 => k v d H' G' (e1.trans e2) (r1.ext e2 g2) v2 h2⟩
section
variable {X : Cx} {x : Str} {p pos : Pos} {e : Expr} {es : List Expr} {t : DTA} {id T : String} {r : DRC}
theorem de_callB (hc : DCall X (.builtin id) r) (hg : Gl X x) (hm : X.mg x = none) (hv : bootBuiltins x = some (.builtin id)) (ha : DA X (e :: es) t) (hn : x ≠ "__name__" := by decide) (hdb : (x == ("__debug__" : Str)) = false := by decide)
    (he : starEach (e :: es) X.env = (false, eval e X.env) :: starEach es X.env := by rfl) (hpl : (backTo pos (starEach es X.env)).any (·.1) = false := by rfl) : DE X (.Call (.Name x p) (e :: es) [] pos) (dCB r t) := (pe_callB hc hg hm hv ha hn hdb he hpl).imp fun _ _ _ h => up_cb h
theorem de_callTy (hc : DCall X (.type T) r) (hg : Gl X x) (hm : X.mg x = none) (hv : bootBuiltins x = some (.type T)) (ha : DA X (e :: es) t) (hn : x ≠ "__name__" := by decide) (hdb : (x == ("__debug__" : Str)) = false := by decide)
    (he : starEach (e :: es) X.env = (false, eval e X.env) :: starEach es X.env := by rfl) (hpl : (backTo pos (starEach es X.env)).any (·.1) = false := by rfl) : DE X (.Call (.Name x p) (e :: es) [] pos) (dCB r t) := (pe_callTy hc hg hm hv ha hn hdb he hpl).imp fun _ _ _ h => up_cb h
end
theorem repL_1 {K : PySem.W.Frag} {G : GH} {H : Hp} {d : D} {xs : List V} (h : RepL K G H [d] xs) : ∃ x, xs = [x] ∧ RepV K G H d x := by
  unfold RepL at h
  obtain ⟨x, r, rfl, h1, h2⟩ := h
  unfold RepL at h2
  subst h2
  exact ⟨x, rfl, h1⟩
@[simp] def arg1 (ds : List D) (P : D → Prop) : Prop := match ds with
  | [d] => P d
  | _ => False
@[simp] def arg2 (ds : List D) (P : D → D → Prop) : Prop := match ds with
  | [d, e] => P d e
  | _ => False
theorem arg1_of {ds : List D} {P : D → Prop} (h : arg1 ds P) : ∃ d, ds = [d] ∧ P d := by
  match ds, h with
  | [d], h => exact ⟨d, rfl, h⟩
@[simp] def rLen : DRC := fun ds G Q => arg1 ds fun x => match x with
  | .str z => z.length ≤ sizeLine ∧ Q (.int z.length) G
  | .tup l => Q (.int l.length) G
  | .lst l => Q (.int l.length) G
  | .ref a => (match G a with
    | some (.lst l) => Q (.int l.length) G
    | some (.dct l) => Q (.int l.length) G
    | _ => False)
  | _ => False
@[simp] def rIntC : DRC := fun ds G Q => arg1 ds fun x => match x with
  | .int i => Q (.int i) G
  | .bl b => Q (.int (if b then 1 else 0)) G
  | _ => False
@[simp] def rAbs : DRC := fun ds G Q => arg1 ds fun x => match x with
  | .int i => Q (.int (if i < 0 then -i else i)) G
  | _ => False
@[simp] def rMax2 : DRC := fun ds G Q => arg2 ds fun x y => match x with
  | .int i => (match y with
    | .int j => Q (.int (if j > i then j else i)) G
    | _ => False)
  | _ => False
@[simp] def rMin2 : DRC := fun ds G Q => arg2 ds fun x y => match x with
  | .int i => (match y with
    | .int j => Q (.int (if j < i then j else i)) G
    | _ => False)
  | _ => False
def intsD : List D → Option (List Int)
  | [] => some []
  | .int i :: r => (intsD r).map (i :: ·)
  | _ :: _ => none
theorem intsD_of : ∀ {ds : List D} {ns : List Int}, intsD ds = some ns → ds = ns.map D.int
  | [], ns, h => by simp [intsD] at h; subst h; rfl
  | .int i :: r, ns, h => by
    simp only [intsD, Option.map_eq_some_iff] at h
    obtain ⟨ms, h1, rfl⟩ := h
    rw [intsD_of h1]
    rfl
  | .non :: _, _, h => by simp [intsD] at h
  | .bl _ :: _, _, h => by simp [intsD] at h
  | .str _ :: _, _, h => by simp [intsD] at h
  | .byt _ :: _, _, h => by simp [intsD] at h
  | .tup _ :: _, _, h => by simp [intsD] at h
  | .lst _ :: _, _, h => by simp [intsD] at h
  | .ref _ :: _, _, h => by simp [intsD] at h
  | .scr _ :: _, _, h => by simp [intsD] at h
theorem intsD_map : ∀ ns : List Int, intsD (ns.map D.int) = some ns
  | [] => rfl
  | n :: ns => by simp [intsD, intsD_map ns]
@[simp] def intsP (G : GH) (x : D) (P : List Int → Prop) : Prop := match lsOf G x with
  | some ds => (match intsD ds with
    | some ns => P ns
    | none => False)
  | none => False
theorem ints_of {K : PySem.W.Frag} {G : GH} {H : Hp} {x : D} {v : V} {P : List Int → Prop} (g : GOk K G H) (r : RepV K G H x v) (h : intsP G x P) : ∃ a ns, v = .ref a ∧ SqL K H a (ns.map V.int) ∧ P ns := by
  unfold intsP at h
  cases e : lsOf G x with
  | none => rw [e] at h; exact h.elim
  | some ds =>
    rw [e] at h
    dsimp only at h
    cases e2 : intsD ds with
    | none => rw [e2] at h; exact h.elim
    | some ns =>
      rw [e2] at h
      obtain ⟨a, xs, rfl, h1, rl⟩ := ls_at g r e
      rw [intsD_of e2] at rl
      have := repL_ints rl
      subst this
      exact ⟨a, ns, rfl, SqL.of h1, h⟩
@[simp] def rSumC : DRC := fun ds G Q => arg1 ds fun x => intsP G x fun ns => Q (.int ns.sum) G
@[simp] def rTupC : DRC := fun ds G Q => arg1 ds fun x => match sqOf G x with
  | some l => Q (.tup l) G
  | none => False
@[simp] def rLstC : DRC := fun ds G Q => arg1 ds fun x => match sqOf G x with
  | some l => ∀ p, G p = none → Q (.ref p) (updG G p (.lst l))
  | none => False
section
variable {X : Cx}
theorem c_len : DCall X (.builtin "len") rLen := by
  intro pins s σ H xs us Q I r ⟨G, ds, q, g, rl, h0, k⟩
  obtain ⟨d, rfl, h⟩ := arg1_of h0
  obtain ⟨x, rfl, rx⟩ := repL_1 rl
  cases d with
  | str z => cases rv_str rx; exact call_len pins s σ H _ us Q I r ⟨_, z.length, rfl, ⟨h.1, rfl⟩, k _ _ H G (Ext.refl G H) g int_rv h.2⟩
  | tup l =>
    obtain ⟨a, ys, rfl, t, rl⟩ := tp_at rx
    exact call_len_seq pins s σ H _ us Q I r ⟨a, ys, rfl, .inr t, by rw [rl.length]; exact k _ _ H G (Ext.refl G H) g int_rv h⟩
  | lst l =>
    obtain ⟨a, ys, rfl, t, rl⟩ := ls_at g rx (ds := l) rfl
    exact call_len_seq pins s σ H _ us Q I r ⟨a, ys, rfl, .inl (SqL.of t), by rw [rl.length]; exact k _ _ H G (Ext.refl G H) g int_rv h⟩
  | ref a =>
    cases rv_ref rx
    dsimp only at h
    cases hg : G a with
    | none => rw [hg] at h; exact h.elim
    | some o =>
      rw [hg] at h
      cases o with
      | lst l =>
        obtain ⟨ys, h1, rl⟩ := g a _ hg
        exact call_len_seq pins s σ H _ us Q I r ⟨a, ys, rfl, .inl (SqL.of h1), by rw [rl.length]; exact k _ _ H G (Ext.refl G H) g int_rv h⟩
      | dct l =>
        obtain ⟨ws, h1, e1, rl⟩ := g a _ hg
        have hl : ws.length = l.length := by simpa using congrArg List.length e1
        refine call_lenD pins s σ H _ us Q I r ⟨a, ws, rfl, h1, ?_⟩
        rw [hl]
        exact k _ _ H G (Ext.refl G H) g int_rv h
      | raw _ => exact h.elim
      | ins _ _ => exact h.elim
      | dtp _ => exact h.elim
      | tab _ => exact h.elim
      | slt _ _ => exact h.elim
  | _ => exact h.elim
theorem c_int : DCall X (.type "int") rIntC := by
  intro pins s σ H xs us Q I r ⟨G, ds, q, g, rl, h0, k⟩
  obtain ⟨d, rfl, h⟩ := arg1_of h0
  obtain ⟨x, rfl, rx⟩ := repL_1 rl
  cases d with
  | int i => cases rv_int rx; exact call_int1 pins s σ H _ us Q I r (.inl ⟨i, rfl, k _ _ H G (Ext.refl G H) g int_rv h⟩)
  | bl b => cases rv_bl rx; exact call_int1 pins s σ H _ us Q I r (.inr ⟨b, rfl, k _ _ H G (Ext.refl G H) g int_rv h⟩)
  | _ => exact h.elim
theorem c_sum (hc : X.calm = true) : DCall X (.builtin "sum") rSumC := by
  intro pins s σ H xs us Q I r ⟨G, ds, q, g, rl, h0, k⟩
  obtain ⟨d, rfl, h⟩ := arg1_of h0
  obtain ⟨x, rfl, rx⟩ := repL_1 rl
  obtain ⟨a, ns, rfl, hs, h⟩ := ints_of g rx h
  exact cr_sum hc pins s σ H _ us Q I r ⟨a, ns, rfl, hs, k _ _ H G (Ext.refl G H) g int_rv h⟩
theorem c_tuple : DCall X (.type "tuple") rTupC := by
  intro pins s σ H xs us Q I r ⟨G, ds, q, g, rl, h0, k⟩
  obtain ⟨d, rfl, h⟩ := arg1_of h0
  obtain ⟨x, rfl, rx⟩ := repL_1 rl
  cases e : sqOf G d with
  | none => rw [e] at h; exact h.elim
  | some l =>
    rw [e] at h
    obtain ⟨a, ys, rfl, hs, rl⟩ := sq_at g rx e
    refine call_tuple_of pins s σ H _ us Q I r ⟨a, ys, rfl, ?_⟩
    rcases hs with hs | hs
    · refine .inl ⟨hs, fun p hp => ?_⟩
      obtain ⟨e1, g1, v1⟩ := new_tup g hp rl
      exact k _ _ _ _ e1 g1 v1 h
    · refine .inr ⟨hs, ?_⟩
      cases d with
      | tup l2 =>
        simp only [sqOf, Option.some.injEq] at e
        subst e
        exact k _ _ H G (Ext.refl G H) g rx h
      | lst l2 =>
        obtain ⟨a2, xs2, e2, h2, _⟩ := ls_at g rx (ds := l) e
        cases e2
        have z1 := (I.list (SqL.of h2))
        obtain ⟨its, _, ⟨o, n, ho, hc, _⟩, _⟩ := z1
        obtain ⟨its2, _, ⟨o2, ho2, hc2, _⟩, _⟩ := I.tuple hs
        rw [ho] at ho2
        cases ho2
        rw [hc] at hc2
        simp at hc2
      | ref a2 =>
        obtain ⟨a2, xs2, e2, h2, _⟩ := ls_at g rx (ds := l) e
        cases e2
        have z1 := (I.list (SqL.of h2))
        obtain ⟨its, _, ⟨o, n, ho, hc, _⟩, _⟩ := z1
        obtain ⟨its2, _, ⟨o2, ho2, hc2, _⟩, _⟩ := I.tuple hs
        rw [ho] at ho2
        cases ho2
        rw [hc] at hc2
        simp at hc2
      | _ => simp [sqOf] at e
theorem c_list : DCall X (.type "list") rLstC := by
  intro pins s σ H xs us Q I r ⟨G, ds, q, g, rl, h0, k⟩
  obtain ⟨d, rfl, h⟩ := arg1_of h0
  obtain ⟨x, rfl, rx⟩ := repL_1 rl
  cases e : sqOf G d with
  | none => rw [e] at h; exact h.elim
  | some l =>
    rw [e] at h
    obtain ⟨a, ys, rfl, hs, rl⟩ := sq_at g rx e
    refine call_list_of pins s σ H _ us Q I r ⟨a, ys, rfl, hs, fun p hp => ?_⟩
    obtain ⟨e1, g1, v1⟩ := new_lst g hp rl
    exact k _ _ _ _ e1 g1 v1 (h p (g.fresh hp))
end

section
open AutoSeq1
theorem ext_by_tuple (l : Addr) (items : Array Value) (n : Nat) (b : Addr) (more : Array Value) (n2 : Nat) (dd : Option Addr) (sl : Array (Option Value)) (hs0 : ¬(!items.isEmpty && Builtin.List.listTooLong (items.size + more.size)) = true) (hs1 : items.size ≤ sizeLine)
    (hs2 : items.size + more.size ≤ sizeLine + 1) :
    Meets (Builtin.«list.extend» ⟨[.ref l, .ref b], []⟩) (fun _ R s => s.heap.get? l = some { cls := .type "list", data := .seq items n } ∧ s.heap.get? b = some { cls := .type "tuple", dict := dd, data := .seq more n2, slots := sl } ∧
      R (.ok (.ret Value.none)) { s with heap := s.heap.update l (Obj.mapSeq fun x => x ++ more) }) :=
  .of_wp fun prog w A R st hh => by
    obtain ⟨hp, gg, dr, tk, os⟩ := st
    obtain ⟨hl, hb, hR⟩ := hh
    have f1 := idx_int
    have f2 := sub_tuple_tuple
    have f3 := sub_list_list
    have f4 := sub_tuple_list
    have f5 := sub_list_tuple
    have hz : (items ++ more).size ≤ sizeLine + 1 := by rw [Array.size_append]; exact hs2
    wp_walk using (wpAny_updateSeq hl rfl (hz := hs1) (_hz' := hz)), wpAny_loadPart' hl, wpAny_loadPart' hb
    exact ⟨_, rfl, hR⟩
end
abbrev DRM := D → List D → GH → DK → Prop
def upM (K : PySem.W.Frag) (r : DRM) : V → List V → Hp → VK → Prop := fun x xs H Qv => ∃ (G : GH) (d : D) (ds : List D) (Q : DK), GOk K G H ∧ RepV K G H d x ∧ RepL K G H ds xs ∧ r d ds G Q ∧ ∀ v d H' G', Ext G H G' H' → GOk K G' H' → RepV K G' H' d v → Q d G' → Qv v H'
@[simp] def dMt (r : DRM) (to : DTE) (t : DTA) : DTE := fun ρ G Q => to ρ G fun x G1 => lstP G1 x fun _ _ => t ρ G1 fun ds G2 => r x ds G2 Q
@[simp] def mAppend : DRM := fun x ds G Q => lstP G x fun a l => arg1 ds fun d => l.length < sizeLine ∧ Q .non (updG G a (.lst (l ++ [d])))
@[simp] def mExtend : DRM := fun x ds G Q => lstP G x fun a l => arg1 ds fun d => match sqOf G d with
  | some m => l.length + m.length ≤ sizeLine ∧ Q .non (updG G a (.lst (l ++ m)))
  | none => False
section
variable {X : Cx}
theorem m_append : MtR X "list.append" (upM X.K mAppend) := by
  intro pins s σ H x xs v us Q I rx rv ⟨G, d, ds, q, g, r1, r2, h, k⟩
  obtain ⟨a, l, ys, rfl, rfl, hg, h1, h2, rl⟩ := lst_of g r1 h
  obtain ⟨e, rfl, h3⟩ := arg1_of h1
  obtain ⟨y, rfl, ry⟩ := repL_1 r2
  refine mt_append pins s σ H _ _ v us Q I rx rv ⟨a, ys, y, rfl, rfl, h2, by rw [rl.length]; exact h3.1, ?_⟩
  obtain ⟨e1, g1⟩ := put_lst g hg (rl.append (repL_one ry))
  exact k _ _ _ _ e1 g1 non_rv h3.2
theorem m_extend : MtR X "list.extend" (upM X.K mExtend) := by
  intro pins s σ H x xs v us Q I rx rv ⟨G, d, ds, q, g, r1, r2, h, k⟩
  obtain ⟨a, l, ys, rfl, rfl, hg, h1, h2, rl⟩ := lst_of g r1 h
  obtain ⟨e, rfl, h3⟩ := arg1_of h1
  obtain ⟨y, rfl, ry⟩ := repL_1 r2
  cases e2 : sqOf G e with
  | none => rw [e2] at h3; exact h3.elim
  | some m =>
    rw [e2] at h3
    obtain ⟨b, zs, rfl, hs, rm⟩ := sq_at g ry e2
    obtain ⟨e1, g1⟩ := put_lst g hg (rl.append rm)
    have fin : Q .non (upd H a (.lst (ys ++ zs))) := k _ _ _ _ e1 g1 non_rv h3.2
    have hz : ys.length + zs.length ≤ sizeLine := by rw [rl.length, rm.length]; exact h3.1
    have hcase : (H b = some (.lst zs)) ∨ SqT X.K H b zs := by
      rcases hs with hs | hs
      · cases e with
        | tup l2 =>
          obtain ⟨a2, xs2, e3, h4, _⟩ := tp_at ry
          cases e3
          obtain ⟨its, _, ⟨o, n, ho, hc, _⟩, _⟩ := I.list hs
          obtain ⟨its2, _, ⟨o2, ho2, hc2, _⟩, _⟩ := I.tuple h4
          rw [ho] at ho2
          cases ho2
          rw [hc] at hc2
          simp at hc2
        | lst l2 =>
          obtain ⟨a2, xs2, e3, h4, _⟩ := ls_at g ry (ds := m) e2
          cases e3
          rw [I.list_inj hs (SqL.of h4)]
          exact .inl h4
        | ref l2 =>
          obtain ⟨a2, xs2, e3, h4, _⟩ := ls_at g ry (ds := m) e2
          cases e3
          rw [I.list_inj hs (SqL.of h4)]
          exact .inl h4
        | _ => simp [sqOf] at e2
      · exact .inr hs
    rcases hcase with hb | hb
    · exact mt_extend pins s σ H _ _ v us Q I rx rv ⟨a, b, ys, zs, rfl, rfl, h2, hb, hz, fin⟩
    · cases rx
      obtain ⟨u, rfl, ru⟩ := rv.one
      cases ru
      obtain ⟨z, its, n, r, hl, e⟩ := I.lstM h2
      obtain ⟨its2, r2', ⟨⟨cls, dd, data, sl⟩, ho, hcl, n2, hd⟩, hz2⟩ := I.tuple hb
      simp only at hcl hd
      subst hcl hd
      have hl2 := r2'.length
      have hsz : its.toArray.size + its2.toArray.size ≤ sizeLine := by rw [List.size_toArray, List.size_toArray]; omega
      have hlong : ¬ (!its.toArray.isEmpty && Builtin.List.listTooLong (its.toArray.size + its2.toArray.size)) = true := by
        rw [notLongL hsz, Bool.and_false]
        exact Bool.false_ne_true
      refine call_meets F.slot_list_extend ⟨_, e, rfl⟩ F.entry_list_extend (F.args_list_extend_2 _ _)
        (ext_by_tuple a its.toArray n b its2.toArray n2 dd sl hlong (by rw [List.size_toArray]; omega) (by omega)) ⟨e, ho, ?_⟩
      refine ⟨.non, _, I.lset (its' := its ++ its2) h2 e (by simp) (r.append r2') ?_, rfl, fin⟩
      rw [List.length_append]
      omega
variable {o e : Expr} {es : List Expr} {to : DTE} {t : DTA} {name : Str} {apos cpos : Pos} {id : String} {r : DRM}
theorem up_mt {K : PySem.W.Frag} {σ : St} {H : Hp} {Q : VK} (h : up K (dMt r to t) σ H Q) : tBM K "list" (upM K r) (up K to) (upA K t) σ H Q := by
  obtain ⟨ρ, G, q, r0, h, k⟩ := h
  refine ⟨ρ, G, _, r0, h, fun x dx H1 G1 e1 r1 v1 h1 => ?_⟩
  obtain ⟨a, l, ys, rfl, rfl, hg, h2, h3, rl⟩ := lst_of r1.gok v1 h1
  refine ⟨.inl ⟨rfl, ys, SqL.of h3⟩, ρ, G1, _, r1, h2, fun vs ds H2 G2 e2 r2 v2 h4 => ?_⟩
  exact ⟨G2, .ref a, ds, q, r2.gok, ref_rv, v2, h4, fun v d H' G' e3 g3 v3 h3 => k v d H' G' ((e1.trans e2).trans e3) (r2.ext e3 g3) v3 h3⟩
theorem de_mt (slot : Slot "list" name id) (hty : typeOf (.builtin id) = pure (.type "method_descriptor")) (hm : MtR X id (upM X.K r)) (ho : DE X o to) (ha : DA X (e :: es) t)
    (hbase : attributeBase o name X.env (eval o X.env) = eval o X.env := by rfl)
    (hfew : ((backTo cpos (starEach (e :: es) X.env)).all (fun x => !x.1) && (backToKw cpos (keywordEach [] X.env)).all (fun x => x.1.isSome)
      && decide ((e :: es).length + ([] : List Keyword).length + (if ([] : List Keyword).isEmpty then 0 else 1) < 30)) = true := by rfl)
    (hline : (apos.endLine == cpos.line) = true := by rfl) (hs : starEach (e :: es) X.env = (false, eval e X.env) :: starEach es X.env := by rfl) (hplain : (backTo cpos (starEach es X.env)).any (·.1) = false := by rfl) :
    DE X (.Call (.Attribute o name apos) (e :: es) [] cpos) (dMt r to t) := (pe_bm F.plainAttrs_list slot hty hm ho ha hbase hfew hline hs hplain).imp fun _ _ _ h => up_mt h
theorem de_append {x : Expr} {tx : DTE} (ho : DE X o to) (ha : DE X x tx)
    (hbase : attributeBase o "append" X.env (eval o X.env) = eval o X.env := by rfl)
    (hfew : ((backTo cpos (starEach [x] X.env)).all (fun x => !x.1) && (backToKw cpos (keywordEach [] X.env)).all (fun x => x.1.isSome)
      && decide ([x].length + ([] : List Keyword).length + (if ([] : List Keyword).isEmpty then 0 else 1) < 30)) = true := by rfl)
    (hline : (apos.endLine == cpos.line) = true := by rfl) (hs : starEach [x] X.env = (false, eval x X.env) :: starEach [] X.env := by rfl) (hplain : (backTo cpos (starEach [] X.env)).any (·.1) = false := by rfl) :
    DE X (.Call (.Attribute o "append" apos) [x] [] cpos) (dMt mAppend to (dCons tx dNil)) := de_mt F.slot_list_append F.type_list_append m_append ho (da_cons ha da_nil hs) hbase hfew hline hs hplain
theorem de_extend {x : Expr} {tx : DTE} (ho : DE X o to) (ha : DE X x tx)
    (hbase : attributeBase o "extend" X.env (eval o X.env) = eval o X.env := by rfl)
    (hfew : ((backTo cpos (starEach [x] X.env)).all (fun x => !x.1) && (backToKw cpos (keywordEach [] X.env)).all (fun x => x.1.isSome)
      && decide ([x].length + ([] : List Keyword).length + (if ([] : List Keyword).isEmpty then 0 else 1) < 30)) = true := by rfl)
    (hline : (apos.endLine == cpos.line) = true := by rfl) (hs : starEach [x] X.env = (false, eval x X.env) :: starEach [] X.env := by rfl) (hplain : (backTo cpos (starEach [] X.env)).any (·.1) = false := by rfl) :
    DE X (.Call (.Attribute o "extend" apos) [x] [] cpos) (dMt mExtend to (dCons tx dNil)) := de_mt F.slot_list_extend F.type_list_extend m_extend ho (da_cons ha da_nil hs) hbase hfew hline hs hplain
end
end Dl

namespace Dl
open PySem L2

@[simp] def dStar (te : DTE) (tr : DTA) : DTA := fun ρ G Q => te ρ G fun x G1 => match sqOf G1 x with
  | some ds => tr ρ G1 fun xs G2 => Q (ds ++ xs) G2
  | none => False
section
variable {X : Cx}
theorem da_star {e : Expr} {es : List Expr} {te : DTE} {t : DTA} {p : Pos} (he : DE X e te) (hr : DA X es t) (hs : starEach (.Starred e p :: es) X.env = (true, eval e X.env) :: starEach es X.env := by rfl) : DA X (.Starred e p :: es) (dStar te t) := by
  refine (StX.pa_star he hr hs).imp fun σ H Q ⟨ρ, G, q, r, h, k⟩ => ?_
  refine ⟨ρ, G, _, r, h, fun v d H1 G1 e1 r1 v1 h1 => ?_⟩
  cases e2 : sqOf G1 d with
  | none => rw [e2] at h1; exact h1.elim
  | some ds =>
    rw [e2] at h1
    obtain ⟨a, xs, rfl, hs, rl⟩ := sq_at r1.gok v1 e2
    refine ⟨a, xs, rfl, hs.symm, ρ, G1, _, r1, h1, fun vs es H2 G2 e3 r2 v2 h2 => ?_⟩
    exact k _ _ H2 G2 (e1.trans e3) r2 ((rl.ext e3).append v2) h2

end
@[simp] def truP (G : GH) (d : D) (P : Bool → Prop) : Prop := match d with
  | .non => P false
  | .bl b => P b
  | .int i => P (i != 0)
  | .str x => x.length ≤ sizeLine ∧ P ((x.length : Int) != 0)
  | .tup l => P (!l.isEmpty)
  | .lst l => P (!l.isEmpty)
  | .ref a => (match G a with
    | some (.lst l) => P (!l.isEmpty)
    | some (.dct l) => P (!l.isEmpty)
    | _ => False)
  | _ => False
@[simp] def dTru (te : DTE) : DTT := fun ρ G Q => te ρ G fun d G1 => truP G1 d fun b => Q b G1
theorem isEmpty_len {α β : Type} {xs : List α} {ys : List β} (h : xs.length = ys.length) : xs.isEmpty = ys.isEmpty := by
  cases xs <;> cases ys <;> simp_all
theorem tru_of {K : PySem.W.Frag} {G : GH} {H : Hp} {d : D} {v : V} {P : Bool → Prop} (g : GOk K G H) (r : RepV K G H d v) (h : truP G d P) : ∃ b, TruV K v H b ∧ P b := by
  cases d with
  | non => cases rv_non r; exact ⟨false, rfl, h⟩
  | bl b => cases rv_bl r; exact ⟨b, rfl, h⟩
  | int i => cases rv_int r; exact ⟨_, rfl, h⟩
  | str x => cases rv_str r; exact ⟨_, ⟨h.1, rfl⟩, h.2⟩
  | tup l =>
    obtain ⟨a, xs, rfl, t, rl⟩ := tp_at r
    exact ⟨_, .inr (.inl ⟨xs, t, rfl⟩), by rw [isEmpty_len rl.length]; exact h⟩
  | lst l =>
    obtain ⟨a, xs, rfl, t, rl⟩ := ls_at g r (ds := l) rfl
    exact ⟨_, .inl ⟨xs, SqL.of t, rfl⟩, by rw [isEmpty_len rl.length]; exact h⟩
  | ref a =>
    cases rv_ref r
    dsimp only [truP] at h
    cases hg : G a with
    | none => rw [hg] at h; exact h.elim
    | some o =>
      rw [hg] at h
      cases o with
      | lst l =>
        obtain ⟨xs, h1, rl⟩ := g a _ hg
        exact ⟨_, .inl ⟨xs, SqL.of h1, rfl⟩, by rw [isEmpty_len rl.length]; exact h⟩
      | dct l =>
        obtain ⟨ws, h1, e1, rl⟩ := g a _ hg
        have hl : ws.length = l.length := by simpa using congrArg List.length e1
        exact ⟨_, .inr (.inr ⟨ws, h1, rfl⟩), by rw [isEmpty_len hl]; exact h⟩
      | raw _ => exact h.elim
      | ins _ _ => exact h.elim
      | dtp _ => exact h.elim
      | tab _ => exact h.elim
      | slt _ _ => exact h.elim
  | _ => exact h.elim
section
variable {X : Cx}
theorem dt_tru {e : Expr} {te : DTE} (h : DE X e te) (he : ∀ whole, isTrue e X.env whole = (do let v ← whole; standAt e.pos; holding [v] (truthy v)) := by intro _; rfl) : DT X e (dTru te) := by
  refine (pt_truth h he).imp fun σ H Q ⟨ρ, G, q, r, h, k⟩ => ?_
  refine ⟨ρ, G, _, r, h, fun v d H1 G1 e1 r1 v1 h1 => ?_⟩
  obtain ⟨b, hb, h2⟩ := tru_of r1.gok v1 h1
  exact ⟨b, hb, k b H1 G1 e1 r1 h2⟩

end
@[simp] def tyD (G : GH) : D → Option String
  | .non => some "NoneType"
  | .bl _ => some "bool"
  | .int _ => some "int"
  | .str _ => some "str"
  | .byt _ => some "bytes"
  | .tup _ => some "tuple"
  | .lst _ => some "list"
  | .ref a => (match G a with
    | some (.lst _) => some "list"
    | some (.dct _) => some "dict"
    | _ => none)
  | .scr _ => none
  | .fn _ _ _ _ => none
  | .exh _ _ _ _ _ => none
@[simp] def subT (a b : String) : Bool := (a == b) || (a == "bool" && b == "int")
@[simp] def dIsi (T : String) (te : DTE) : DTE := fun ρ G Q => te ρ G fun d G1 => match tyD G1 d with
  | some t => Q (.bl (subT t T)) G1
  | none => False
def isiTypes : List String := ["NoneType", "bool", "int", "str", "bytes", "tuple", "list", "dict"]
theorem isi_tab : ∀ a ∈ isiTypes, ∀ b ∈ ["int", "bool", "str", "tuple", "list"], kitB a b = some (subT a b) := by decide +kernel
theorem ty_of {K : PySem.W.Frag} {G : GH} {H : Hp} {d : D} {v : V} {t : String} (g : GOk K G H) (r : RepV K G H d v) (h : tyD G d = some t) : TyX K H v (.type t) ∧ t ∈ isiTypes := by
  cases d with
  | non => cases rv_non r; simp only [tyD, Option.some.injEq] at h; subst h; exact ⟨.base .non, by decide⟩
  | bl b => cases rv_bl r; simp only [tyD, Option.some.injEq] at h; subst h; exact ⟨.base (.bl b), by decide⟩
  | int b => cases rv_int r; simp only [tyD, Option.some.injEq] at h; subst h; exact ⟨.base (.int b), by decide⟩
  | str b => cases rv_str r; simp only [tyD, Option.some.injEq] at h; subst h; exact ⟨.base (.str b), by decide⟩
  | byt b => unfold RepV at r; subst r; simp only [tyD, Option.some.injEq] at h; subst h; exact ⟨.byt b, by decide⟩
  | tup l =>
    unfold RepV at r
    obtain ⟨a, xs, rfl, t, rl⟩ := r
    simp only [tyD, Option.some.injEq] at h
    subst h
    refine ⟨?_, by decide⟩
    rcases t with ⟨_, t⟩ | ⟨_, o, its, n, hk, hc, _⟩
    · exact .base (.tup t)
    · exact .kTuple hk hc
  | lst l =>
    unfold RepV at r
    obtain ⟨a, xs, rfl, t, rl⟩ := r
    simp only [tyD, Option.some.injEq] at h
    subst h
    exact ⟨.base (.lst t.2), by decide⟩
  | ref a =>
    cases rv_ref r
    dsimp only [tyD] at h
    cases hg : G a with
    | none => rw [hg] at h; cases h
    | some o =>
      rw [hg] at h
      cases o with
      | lst l =>
        obtain ⟨xs, h1, rl⟩ := g a _ hg
        simp only [Option.some.injEq] at h
        subst h
        exact ⟨.base (.lst h1), by decide⟩
      | dct l =>
        obtain ⟨ws, h1, _⟩ := g a _ hg
        simp only [Option.some.injEq] at h
        subst h
        exact ⟨.base (.dK h1), by decide⟩
      | raw _ => cases h
      | ins _ _ => cases h
      | dtp _ => cases h
      | tab _ => cases h
      | slt _ _ => cases h
  | scr _ => simp [tyD] at h
  | fn _ _ _ _ => simp [tyD] at h
  | exh _ _ _ _ _ => simp [tyD] at h
section
variable {X : Cx}
theorem de_isi {e : Expr} {te : DTE} {T : String} {Tn : Str} {p pT pos : Pos} (hT : T ∈ ["int", "bool", "str", "tuple", "list"]) (hg : Gl X "isinstance") (hm : X.mg "isinstance" = none) (hgT : Gl X Tn) (hmT : X.mg Tn = none) (hbT : bootBuiltins Tn = some (.type T)) (he : DE X e te)
    (hs : starEach [e, .Name Tn pT] X.env = (false, eval e X.env) :: starEach [.Name Tn pT] X.env := by rfl) (hs2 : starEach [.Name Tn pT] X.env = (false, eval (.Name Tn pT) X.env) :: starEach [] X.env := by rfl) (hpl : (backTo pos (starEach [.Name Tn pT] X.env)).any (·.1) = false := by rfl)
    (hn : Tn ≠ "__name__" := by decide) (hd : (Tn == ("__debug__" : Str)) = false := by decide) :
    DE X (.Call (.Name "isinstance" p) [e, .Name Tn pT] [] pos) (dIsi T te) := by
  refine (pe_callB call_isi hg hm PyProof.Rows.boot_isinstance (pa_cons he (pa_cons (pe_bltn (v := .ty T) hgT hmT hbT rfl hn hd) pa_nil hs2) hs) (he := hs) (hpl := hpl)).imp fun σ H Q ⟨ρ, G, q, r, h, k⟩ => ?_
  refine ⟨ρ, G, _, r, h, fun v d H1 G1 e1 r1 v1 h1 => ?_⟩
  cases e2 : tyD G1 d with
  | none => rw [e2] at h1; exact h1.elim
  | some t =>
    rw [e2] at h1
    obtain ⟨ty, tm⟩ := ty_of r1.gok v1 e2
    exact ⟨v, .ty T, .type t, .type T, subT t T, rfl, .ty T, ty, kit_ty (isi_tab t tm T hT), k _ _ H1 G1 e1 r1 bl_rv h1⟩

end
mutual
/-- ints of few digits -/
def fewD : D → Bool
  | .int i => decide (i.natAbs.log2 < 1920)
  | .tup ds => fewDs ds
  | .lst ds => fewDs ds
  | _ => true
def fewDs : List D → Bool
  | [] => true
  | d :: ds => fewD d && fewDs ds
end
mutual
theorem show_py : ∀ d : D, fewD d = true → (pyD d).showable = true
  | .non, _ => by simp [pyD, PyData.showable]
  | .bl _, _ => by simp [pyD, PyData.showable]
  | .int i, h => by simpa [pyD, PyData.showable, fewD] using h
  | .str x, _ => by simp [pyD, PyData.showable]
  | .tup ds, h => by simpa [pyD, PyData.showable] using shows_py ds (by simpa [fewD] using h)
  | .lst ds, h => by simpa [pyD, PyData.showable] using shows_py ds (by simpa [fewD] using h)
  | .byt _, h => by simp [pyD, PyData.showable]
  | .ref _, h => by simp [pyD, PyData.showable]
  | .scr _, h => by simp [pyD, PyData.showable]
  | .fn _ _ _ _, h => by simp [pyD, PyData.showable]
  | .exh _ _ _ _ _, h => by simp [pyD, PyData.showable]
theorem shows_py : ∀ ds : List D, fewDs ds = true → PyData.showableAll (pyDs ds) = true
  | [], _ => by simp [pyDs, PyData.showableAll]
  | d :: ds, h => by
    simp only [fewDs, Bool.and_eq_true] at h
    simp [pyDs, PyData.showableAll, show_py d h.1, shows_py ds h.2]
end
def shD (d : D) : Str := (pyD d).shown
def isSeqD : D → Bool
  | .tup _ => true
  | .lst _ => true
  | _ => false
structure Shw (d : D) : Prop where
  sq : isSeqD d = true
  ok : okD d
  few : fewD d = true
  len : (shD d).length ≤ sizeLine
@[simp] def rRepr : DRC := fun ds G Q => arg1 ds fun x => Shw (vw G x) ∧ Q (.str (shD (vw G x))) G
section
variable {X : Cx}
theorem c_repr (hgd : X.A.guards = some []) (hu : X.A.units + 70 < cLine) : DCall X (.builtin "repr") rRepr := by
  intro pins s σ H xs us Q I r ⟨G, ds, q, g, rl, h0, k⟩
  obtain ⟨d, rfl, hS, h⟩ := arg1_of h0
  obtain ⟨x, rfl, rx⟩ := repL_1 rl
  obtain ⟨u, rfl, ru⟩ := vals1 r
  have dp := vw_dp g rx hS.ok.1
  obtain ⟨as, rd⟩ := Dp.reads I _ x u dp ru
  obtain ⟨a, rfl⟩ : ∃ a, u = Value.ref a := by
    have hs := hS.sq
    cases e : vw G d with
    | tup l =>
      rw [e] at rd
      simp only [pyD] at rd
      cases rd
      exact ⟨_, rfl⟩
    | lst l =>
      rw [e] at rd
      simp only [pyD] at rd
      cases rd
      exact ⟨_, rfl⟩
    | _ => rw [e] at hs; simp [isSeqD] at hs
  have hnd := PyData.hasDict_of_canLay _ (lay_py _ hS.ok.1)
  have hdep : (pyD (vw G d)).depth ≤ 64 := by rw [depth_py]; exact hS.ok.2
  refine repr_of_reads' rd (show_py _ hS.few) (PyData.noDict_hsm hnd) hgd (by omega) (fun _ _ e => e) (fun h' u' tk hk => ?_) hS.len
  exact ⟨.str _, H, I.kept hk, ⟨_, rfl⟩, k _ _ H G (Ext.refl G H) g str_rv h⟩

end
@[simp] def dPairs : List (DTE × DTE) → DSt → GH → (List (D × D) → GH → Prop) → Prop
  | [], _, G, Q => Q [] G
  | (tk, tv) :: r, ρ, G, Q => tk ρ G fun x G1 => tv ρ G1 fun y G2 => dPairs r ρ G2 fun ps G3 => Q ((x, y) :: ps) G3
def keysD : List (D × D) → Option (List (Key × D))
  | [] => some []
  | p :: r => (match keyD p.1 with
    | some k => (keysD r).map ((k, p.2) :: ·)
    | none => none)
def mergeD (kvs : List (Key × D)) : List (Key × D) → List (Key × D)
  | [] => kvs
  | p :: r => mergeD (putD kvs p.1 p.2) r
@[simp] def dDisp (trs : List (DTE × DTE)) : DTE := fun ρ G Q => ∀ p, G p = none → dPairs trs ρ (updG G p (.dct [])) fun ps G2 => G2 p = some (.dct []) ∧ match keysD ps with
  | some kvs => kvs.length ≤ 15 ∧ Q (.ref p) (updG G2 p (.dct (mergeD [] kvs)))
  | none => False
def upTrs (K : PySem.W.Frag) (trs : List (DTE × DTE)) : List (TE × TE) := trs.map fun p => (up K p.1, up K p.2)
inductive RepP (K : PySem.W.Frag) (G : GH) (H : Hp) : List (D × D) → List (V × V) → Prop
  | nil : RepP K G H [] []
  | cons {d e : D} {x y : V} {ps : List (D × D)} {qs : List (V × V)} : RepV K G H d x → RepV K G H e y → RepP K G H ps qs → RepP K G H ((d, e) :: ps) ((x, y) :: qs)
theorem pairs_up {K : PySem.W.Frag} : ∀ {trs : List (DTE × DTE)} {σ : St} {H : Hp} {ρ : DSt} {G : GH} {Q : List (D × D) → GH → Prop} {Qv : List (V × V) → Hp → Prop}, DRel K σ H ρ G → dPairs trs ρ G Q →
    (∀ qs ps H' G', Ext G H G' H' → DRel K σ H' ρ G' → RepP K G' H' ps qs → Q ps G' → Qv qs H') → tPairs (upTrs K trs) σ H Qv
  | [], σ, H, ρ, G, Q, Qv, r, h, k => k [] [] H G (Ext.refl G H) r .nil h
  | (tk, tv) :: trs, σ, H, ρ, G, Q, Qv, r, h, k => by
    refine ⟨ρ, G, _, r, h, fun x dx H1 G1 e1 r1 v1 h1 => ?_⟩
    refine ⟨ρ, G1, _, r1, h1, fun y dy H2 G2 e2 r2 v2 h2 => ?_⟩
    refine pairs_up r2 h2 fun qs ps H3 G3 e3 r3 v3 h3 => ?_
    exact k _ _ H3 G3 ((e1.trans e2).trans e3) r3 (.cons (v1.ext (e2.trans e3)) (v2.ext e3) v3) h3
theorem keys_rep {K : PySem.W.Frag} {G : GH} {H : Hp} : ∀ {ps : List (D × D)} {qs : List (V × V)} {kvs : List (Key × D)}, RepP K G H ps qs → keysD ps = some kvs → ∃ ws : List (Key × V), qs = ws.map (fun kv => (kV kv.1, kv.2)) ∧ ws.map (·.1) = kvs.map (·.1) ∧ RepL K G H (kvs.map (·.2)) (ws.map (·.2))
  | _, _, kvs, .nil, h => by
    simp only [keysD, Option.some.injEq] at h
    subst h
    exact ⟨[], rfl, rfl, repL_nil⟩
  | _, _, kvs, .cons (d := d) (e := e) (x := x) (y := y) a b c, h => by
    unfold keysD at h
    cases hk : keyD d with
    | none => simp only [hk] at h; cases h
    | some k =>
      simp only [hk, Option.map_eq_some_iff] at h
      obtain ⟨ks, h1, rfl⟩ := h
      obtain ⟨ws, e1, e2, e3⟩ := keys_rep c h1
      refine ⟨(k, y) :: ws, ?_, ?_, ?_⟩
      · rw [key_rep a hk, e1]; rfl
      · simp [e2]
      · exact repL_cons b e3
theorem merge_rep {K : PySem.W.Frag} {G : GH} {H : Hp} : ∀ {kvs : List (Key × D)} {ws : List (Key × V)} {acc : List (Key × D)} {bcc : List (Key × V)}, ws.map (·.1) = kvs.map (·.1) → RepL K G H (kvs.map (·.2)) (ws.map (·.2)) → bcc.map (·.1) = acc.map (·.1) → RepL K G H (acc.map (·.2)) (bcc.map (·.2)) →
    (mergeK bcc ws).map (·.1) = (mergeD acc kvs).map (·.1) ∧ RepL K G H ((mergeD acc kvs).map (·.2)) ((mergeK bcc ws).map (·.2))
  | [], [], _, _, _, _, e, r => ⟨e, r⟩
  | [], _ :: _, _, _, e, _, _, _ => by simp at e
  | _ :: _, [], _, _, e, _, _, _ => by simp at e
  | p :: kvs, q :: ws, acc, bcc, e, r, e2, r2 => by
    simp only [List.map_cons, List.cons.injEq] at e
    simp only [List.map_cons] at r
    unfold RepL at r
    obtain ⟨x, t, e3, h1, h2⟩ := r
    simp only [List.cons.injEq] at e3
    obtain ⟨e4, e5⟩ := e3
    subst e4
    rw [← e5] at h2
    obtain ⟨i1, i2⟩ := putD_rep (k := p.1) h1 e2 r2
    have := merge_rep (acc := putD acc p.1 p.2) (bcc := putK bcc p.1 q.2) e.2 h2 i1 i2
    unfold mergeD
    show (mergeK (putK bcc q.1 q.2) ws).map _ = _ ∧ RepL K G H _ ((mergeK (putK bcc q.1 q.2) ws).map _)
    rw [e.1]
    exact this
section
variable {X : Cx}
abbrev DPs (X : Cx) (pos : Pos) (keys : List (Option Expr)) (values : List Expr) (trs : List (DTE × DTE)) : Prop := PPs X pos keys values (upTrs X.K trs)
theorem dps_nil {pos : Pos} : DPs X pos [] [] [] := pps_nil
theorem dps_cons {pos : Pos} {k v : Expr} {ks : List (Option Expr)} {vs : List Expr} {tk tv : DTE} {trs : List (DTE × DTE)} (hk : DE X k tk) (hv : DE X v tv) (hr : DPs X pos ks vs trs) : DPs X pos (some k :: ks) (v :: vs) ((tk, tv) :: trs) := pps_cons hk hv hr
theorem de_disp {pos : Pos} {keys : List (Option Expr)} {values : List Expr} {trs : List (DTE × DTE)} (h : DPs X pos keys values trs) (hall : keys.all (·.isSome) = true := by rfl) (hl : keys.length = values.length := by rfl) (h0 : keys ≠ [] := by exact List.cons_ne_nil _ _)
    (h15 : keys.length ≤ 15 := by decide) : DE X (.Dict keys values pos) (dDisp trs) := by
  refine (pe_disp h hall hl h0 h15).imp fun σ H Q ⟨ρ, G, q, r, h, k⟩ => fun p hp => ?_
  have e1 : Ext G H (updG G p (.dct [])) (upd H p (.dK [])) := Ext.newG hp
  have g1 : GOk X.K (updG G p (.dct [])) (upd H p (.dK [])) := r.gok.put e1 ⟨[], upd_same, rfl, repL_nil⟩
  refine pairs_up (r.ext e1 g1) (h p (r.gok.fresh hp)) fun qs ps H2 G2 e2 r2 v2 h2 => ?_
  obtain ⟨h3, h4⟩ := h2
  obtain ⟨ws, w1, w2, _⟩ := r2.gok p _ h3
  have ews : ws = [] := by simpa using w2
  subst ews
  refine ⟨w1, ?_⟩
  cases hk : keysD ps with
  | none => rw [hk] at h4; exact h4.elim
  | some kvs =>
    rw [hk] at h4
    obtain ⟨zs, z1, z2, z3⟩ := keys_rep v2 hk
    have hlen : zs.length = kvs.length := by simpa using congrArg List.length z2
    obtain ⟨m1, m2⟩ := merge_rep (acc := []) (bcc := []) z2 z3 rfl repL_nil
    have e3 : Ext G2 H2 (updG G2 p (.dct (mergeD [] kvs))) (upd H2 p (.dK (mergeK [] zs))) := Ext.write h3
    refine ⟨zs, z1, by rw [hlen]; exact h4.1, k _ _ _ _ ((e1.trans e2).trans e3) (r2.ext e3 (r2.gok.put e3 ⟨_, upd_same, m1, m2.ext e3⟩)) ref_rv h4.2⟩

end
section
variable {X : Cx} {k : Nat} {f : Addr} {fd : FuncData} {ps ks : List Str} {sp : DSp} {x : Str} {p pos : Pos} {kws : List Keyword} {tk : DTA} {nm : Option Str} {kpos : Pos} {e : Expr} {te : DTE}
structure KwB (K : PySem.W.Frag) (fd : FuncData) (ps ks : List Str) (g : {α : Type} → List α → List α) : Prop where
  to : ∀ (s : Shared) (ws : List Value), (g ws).length = ps.length → BindsTo s fd ⟨[], ks.zip ws⟩ (ps.zip (g ws))
  vals : ∀ {xs : List V} {us : List Value}, Vals xs us → Vals (g xs) (g us)
  reps : ∀ {G : GH} {H : Hp} {ds : List D} {xs : List V}, RepL K G H ds xs → RepL K G H (g ds) (g xs)
end

section
variable {X : Cx}
@[simp] def dCases : List (Option Str × DTS) → D → DTS
  | [], _ => dNext
  | (none, t) :: _, _ => t
  | (some c, t) :: r, d => fun E ρ G => match d with
    | .str z => if z = c then t E ρ G else dCases r d E ρ G
    | _ => False
@[simp] def dMatch (te : DTE) (cs : List (Option Str × DTS)) : DTS := fun E ρ G => te ρ G fun d G1 => dCases cs d E ρ G1
end
end Dl

namespace Dl
open PySem L2
section
open AutoSeq1 (wpAny_loadPart')
theorem enum_new_tuple (t : Addr) (items : Array Value) (n : Nat) (dct : Option Addr) (sl : Array (Option Value)) :
    Meets (Builtin.«enumerate.__new__» ⟨[.type "enumerate", .ref t], []⟩) (fun _ R s => s.heap.get? t = some { cls := .type "tuple", dict := dct, data := .seq items n, slots := sl } ∧
      R (.ok (.ret (.ref (s.heap.push { cls := .type "tuple_iterator", data := .fields #[.ref t, .int 0 0] }).objs.size)))
        { s with heap := (s.heap.push { cls := .type "tuple_iterator", data := .fields #[.ref t, .int 0 0] }).push { cls := .type "enumerate", data := .fields #[.none, .bool false, .ref s.heap.objs.size, rawInt 0, .none, .none] } }) :=
  .of_wp fun prog w A R st hh => by
    obtain ⟨hp, gg, dr, tk, os⟩ := st
    obtain ⟨hl, hR⟩ := hh
    have hsub := sub_enumerate
    have hT : Heap.IsTuple (Shared.heap ⟨hp, gg, dr, tk, os⟩) t items := ⟨_, hl, rfl, n, rfl⟩
    wp_walk using wpAny_loadPart' hl
    refine wpAny_stack_any fun stk => wpAny_pure ?_
    split
    · rename_i c _ _ _ _ _
      cases (c == Value.type "enumerate") <;> (wp_walk using wpAny_loadPart' hl, wpAny_pyIter_tuple hT; exact ⟨_, rfl, hR⟩)
    · wp_walk using wpAny_loadPart' hl, wpAny_pyIter_tuple hT
      exact ⟨_, rfl, hR⟩
theorem call_enum_tuple {prog : Program} {w : World} {A : Around} {E : Value → Shared → Prop} {s : Shared} {t : Addr} {items : Array Value} {Q : Value → Shared → Prop} (hT : s.heap.IsTuple t items)
    (h : ∀ h', IsEnum h' (s.heap.objs.size + 1) s.heap.objs.size 0 .none → h'.IsTupleIter s.heap.objs.size t 0 → h'.objs.size = s.heap.objs.size + 2 →
      (∀ b o, s.heap.get? b = some o → h'.get? b = some o) → Q (.ref (s.heap.objs.size + 1)) { s with heap := h' }) : wpAny (model prog w) A (PySem.call (.type "enumerate") [.ref t]) Q E s := by
  obtain ⟨⟨c, dct, dt, sl⟩, hl, hc, n, hd⟩ := hT
  simp only at hc hd
  subst hc hd
  refine callType_new F.called_enumerate (by decide) (F.typeCall_enumerate_1 _) (F.newCall_enumerate_1 _) (fun obj => F.args_object_init_2 obj _) F.entry_enumerate_new (enum_new_tuple t items n dct sl) ⟨hl, ?_⟩
  have sz : (s.heap.push { cls := .type "tuple_iterator", data := .fields #[.ref t, .int 0 0] }).objs.size = s.heap.objs.size + 1 := Heap.size_push ..
  have top := Heap.get?_push_size (s.heap.push { cls := .type "tuple_iterator", data := .fields #[.ref t, .int 0 0] }) (o := { cls := .type "enumerate", data := .fields #[.none, .bool false, .ref s.heap.objs.size, rawInt 0, .none, .none] }) rfl
  rw [sz] at top
  show _ ∧ _
  rw [sz]
  exact ⟨⟨_, top, rfl⟩, h _ top ⟨_, Heap.get?_push_of_some _ (Heap.get?_push_size _ rfl), rfl, rfl⟩ (by rw [Heap.size_push, sz]) fun b o q => Heap.get?_push_of_some _ (Heap.get?_push_of_some _ q)⟩
end
def Iet (K : PySem.W.Frag) (a : Addr) : It where
  go := fun i H => ∃ (xs : List V) (x : V), SqT K H a xs ∧ xs[i]? = some x
  yld := fun i H v H' => ∃ T x, v = .ref T ∧ H T = none ∧ H' = upd H T (.tup [.int (i : Nat), x]) ∧ ∀ xs, SqT K H a xs → xs[i]? = some x
  stop := fun i H => ∃ xs : List V, SqT K H a xs ∧ xs.length = i
theorem turn_enumT {P : Program} {w : World} {K : PySem.W.Frag} {elts : List Expr} {kk : Nat} {tpos : Pos} (a e it : Addr) :
    Turn P w K (.Tuple elts kk tpos) (Iet K a) [e, it] e (fun i h => (∃ old, IsEnum h e it ((i : Nat) : Int) old) ∧ h.IsTupleIter it a i ∧ e ≠ it) where
  mem := by simp
  obj := by
    rintro i h ⟨⟨old, he⟩, ⟨o, ho, hc, hd⟩, _⟩ b hb
    rcases (by simpa using hb : b = e ∨ b = it) with rfl | rfl
    · exact ⟨_, he, fun v q => nomatch q⟩
    · exact ⟨o, ho, fun v q => by rw [hd] at q; cases q⟩
  keep := by
    rintro i h h' ⟨⟨old, he⟩, hi, hne⟩ k
    exact ⟨⟨old, k e (by simp) _ he⟩, hi.at fun o q => k it (by simp) o q, hne⟩
  item := by
    rintro X rfl rfl rfl hc i pins s σ H E I hf ⟨⟨old, he⟩, hit, hne⟩ ⟨xs, x, hq, hx⟩
    obtain ⟨its, rv, tp, hz⟩ := I.tuple hq
    obtain ⟨u, hu, ru⟩ := rv.get hx
    have hel : e < s.heap.objs.size := Heap.lt_size he
    have hil : it < s.heap.objs.size := by obtain ⟨_, q, _⟩ := hit; exact Heap.lt_size q
    have htp : s.heap.IsTuple a its.toArray := tp
    have hai : a ≠ it := by
      rintro rfl
      obtain ⟨o1, q1, c1, _⟩ := htp
      obtain ⟨o2, q2, c2, _⟩ := hit
      rw [q1] at q2
      cases q2
      rw [c1] at c2
      simp at c2
    have hae : a ≠ e := by
      rintro rfl
      obtain ⟨o1, q1, c1, _⟩ := htp
      have q2 : s.heap.get? a = some _ := he
      rw [q1] at q2
      cases q2
      simp at c1
    have hlt : i < its.toArray.size := by
      have := (List.getElem?_eq_some_iff.mp hu).1
      simpa using this
    refine wpAny_pyNext_enum_itemC (Draws.tuple (show X.A.in1.handled = none from I.ok.hd hc) it a hai its.toArray) he ⟨hit, htp⟩ hlt hne (by simp [hne, hae.symm]) ?_
    intro y h' tk hy ho hst hT hsz hk
    have ey : y = u := by
      have hy2 : its.toArray[i]? = some y := hy
      rw [show its.toArray[i]? = its[i]? by simp] at hy2
      rw [hu] at hy2
      exact (Option.some.inj hy2).symm
    subst ey
    refine ⟨_, rfl, wpAny_letOwnedTupleGo_enum (s := { s with heap := h', toks := tk + 1 }) ho fun h2 he2 sb => ?_⟩
    have hT2 : h2.get? s.heap.objs.size = some { cls := .type "tuple", data := .seq #[.int i tk, y] } := (sb.2 _ (Nat.ne_of_gt hel)).trans hT
    have new : ObjOk X.prog X.w (upd H s.heap.objs.size (.tup [.int (i : Nat), x])) h2 s.heap.objs.size (.tup [.int (i : Nat), x]) :=
      ⟨by show 2 ≤ sizeLine; decide, [.int i tk, y], .cons ⟨_, rfl⟩ (.cons ru .nil), ⟨_, hT2, rfl, _, rfl⟩⟩
    have I1 : Inv X pins σ (upd H s.heap.objs.size (.tup [.int (i : Nat), x])) { s with heap := h2, toks := tk + 1 } :=
      I.turnedNew (ch := [e, it]) (fun b ob hb q => (sb.2 b (fun z => hb (by simp [z]))).trans (hk b ob (fun z => hb (by simp [z])) (fun z => hb (by simp [z])) q)) hf (Nat.le_refl _) new
    refine ⟨.ref s.heap.objs.size, _, I1, rfl, ⟨_, x, rfl, I.hok.fresh (Nat.le_refl _), rfl, fun ys hy => by rw [I.tuple_inj hy hq]; exact hx⟩, ⟨⟨y, ?_⟩, hst.1.at fun o q => (sb.2 it (Ne.symm hne)).trans q, hne⟩, fun b hb => ?_⟩
    · have e1 : ((i + 1 : Nat) : Int) = (i : Int) + 1 := by omega
      rw [e1]
      exact he2
    · have hb2 : b < s.heap.objs.size := by
        rcases (by simpa using hb : b = e ∨ b = it) with rfl | rfl
        · exact hel
        · exact hil
      rw [upd_ne (Nat.ne_of_lt hb2)]
      exact (hf b hb).1
  done := by
    rintro X rfl rfl rfl hc i pins s σ H E I hf ⟨⟨old, he⟩, hit, hne⟩ ⟨xs, hq, hx⟩
    obtain ⟨its, rv, tp, hz⟩ := I.tuple hq
    obtain ⟨f0, f1, f2, f3, f4, f5⟩ := hf it (by simp)
    have htp : s.heap.IsTuple a its.toArray := tp
    have hai : a ≠ it := by
      rintro rfl
      obtain ⟨o1, q1, c1, _⟩ := htp
      obtain ⟨o2, q2, c2, _⟩ := hit
      rw [q1] at q2
      cases q2
      rw [c1] at c2
      simp at c2
    have hl : its.toArray.size = i := by rw [List.size_toArray, ← rv.length]; exact hx
    subst hl
    exact wpAny_pyNext_enum_endD (Draws.tuple (show X.A.in1.handled = none from I.ok.hd hc) it a hai its.toArray) he ⟨hit, htp⟩ fun h' eb => ⟨rfl, I.turned (t' := s.toks) (fun b o hb q => eb b o hb q) f0 f1 f3 f4 f5⟩
  self := by
    rintro A i s Q E ⟨⟨_, he⟩, _⟩ h
    exact wpAny_pyIter_enum he h
section
variable {X : Cx}
def iEnumT (K : PySem.W.Frag) (ta : TA) : TI := fun σ H R => ta σ H fun vs H1 => ∃ a xs, vs = [.ref a] ∧ SqT K H1 a xs ∧ R (Iet K a) H1
theorem pi_enumT {e : Expr} {ta : TA} {p pos tpos : Pos} {elts : List Expr} {kk : Nat} (hg : Gl X "enumerate") (hm : X.mg "enumerate" = none) (ha : PA X [e] ta) (hs : starEach [e] X.env = [(false, eval e X.env)] := by rfl) :
    PI X (.Tuple elts kk tpos) (.Call (.Name "enumerate" p) [e] [] pos) (iEnumT X.K ta) := by
  constructor
  intro pins s σ H R I h
  refine PyProof.Rows.Call_ (ld_blt I hg hm PyProof.Rows.boot_enumerate (PyProof.Rows.callWith_type1 (thn (ha.run pos pins s σ H _ I h) ?_) hs rfl))
  rintro us s1 ⟨vs, H1, I1, r1, a, xs, rfl, hq, q⟩
  obtain ⟨u, rfl, ru⟩ := vals1 r1
  cases ru
  obtain ⟨its, rv, tp, hz⟩ := I1.tuple hq
  refine call_enum_tuple (show s1.heap.IsTuple a its.toArray from tp) fun h' he hit hsz hk => wpAny_pyIter_enum he ?_
  have I2 : Inv X pins σ H1 { s1 with heap := h' } := I1.kept (t' := s1.toks) hk
  refine ⟨s1.heap.objs.size + 1, [s1.heap.objs.size + 1, s1.heap.objs.size], _, _, H1, rfl, I2, turn_enumT a (s1.heap.objs.size + 1) s1.heap.objs.size, ⟨⟨.none, he⟩, hit, Nat.succ_ne_self _⟩, fun b hb => ?_, q⟩
  have hle : s1.heap.objs.size ≤ b := by
    rcases (by simpa using hb : b = s1.heap.objs.size + 1 ∨ b = s1.heap.objs.size) with rfl | rfl
    · exact Nat.le_add_right _ _
    · exact Nat.le_refl _
  exact I1.fpOk hle (I1.hok.fresh hle)
end
def enumD (ds : List D) : List D := (List.range ds.length).map fun i => D.tup [.int (i : Nat), ds.getD i .non]
theorem enumD_get {ds : List D} {i : Nat} {d : D} (h : (enumD ds)[i]? = some d) : ∃ x, ds[i]? = some x ∧ d = .tup [.int (i : Nat), x] := by
  unfold enumD at h
  rw [List.getElem?_map] at h
  by_cases hi : i < ds.length
  · rw [List.getElem?_range hi] at h
    simp only [Option.map_some, Option.some.injEq] at h
    exact ⟨ds[i], List.getElem?_eq_getElem hi, by rw [← h]; simp [hi]⟩
  · rw [List.getElem?_eq_none (by simpa using hi)] at h
    simp at h
theorem enumD_len (ds : List D) : (enumD ds).length = ds.length := by simp [enumD]
@[simp] def iEnT (te : DTE) : DTI := fun ρ G Q => te ρ G fun d G1 => match d with
  | .tup ds => Q (enumD ds) okAll G1
  | _ => False
section
variable {X : Cx}
theorem di_enumT {e : Expr} {te : DTE} {p pos tpos : Pos} {elts : List Expr} {kk : Nat} (hg : Gl X "enumerate") (hm : X.mg "enumerate" = none) (he : DE X e te) (hs : starEach [e] X.env = [(false, eval e X.env)] := by rfl) :
    DI X (.Tuple elts kk tpos) (.Call (.Name "enumerate" p) [e] [] pos) (iEnT te) := by
  refine (pi_enumT hg hm (pa_cons he pa_nil (by rw [hs]; rfl)) hs).imp fun σ H R ⟨ρ, G, q, r, h, k⟩ => ?_
  refine ⟨ρ, G, _, r, h, fun v d H1 G1 e1 r1 v1 h1 => ?_⟩
  cases d with
  | tup ds =>
    unfold RepV at v1
    obtain ⟨a, xs, rfl, ta, rl⟩ := v1
    refine ⟨a, xs, rfl, ta.sq, k _ (enumD ds) okAll H1 G1 e1 r1 (fun G2 H2 e2 g2 _ i => ⟨fun d hd => ?_, fun hi => ⟨xs, (ta.ext e2).sq, by rw [rl.length, hi, enumD_len]⟩⟩) h1⟩
    obtain ⟨x, hx, rfl⟩ := enumD_get hd
    obtain ⟨w, hw, rw'⟩ := (rl.ext e2).get hx
    refine ⟨⟨xs, w, (ta.ext e2).sq, hw⟩, fun y H3 hy => ?_⟩
    obtain ⟨T, z, rfl, hT, rfl, hz⟩ := hy
    have ez := hz xs (ta.ext e2).sq
    rw [hw] at ez
    cases ez
    obtain ⟨e3, g3, v3⟩ := new_tup g2 hT (repL_cons (int_rv (i := (i : Nat))) (repL_one rw'))
    exact ⟨e3, g3, v3⟩
  | _ => exact h1.elim
end
end Dl

namespace Dl
open PySem PySem.Spec PyProof.Rows L2

end Dl

namespace Dl
open PySem L2

@[simp] def dNeg (te : DTE) : DTE := fun ρ G Q => te ρ G fun d G1 => match d with
  | .int i => Q (.int (-i)) G1
  | _ => False
section
variable {X : Cx}
theorem de_neg {a : Expr} {ta : DTE} {pos : Pos} (h : DE X a ta) : DE X (.UnaryOp .USub a pos) (dNeg ta) := by
  refine (pe_un un_neg h).imp fun σ H Q ⟨ρ, G, q, r, h, k⟩ => ?_
  refine ⟨ρ, G, _, r, h, fun v d H1 G1 e1 r1 v1 h1 => ?_⟩
  cases d with
  | int i => cases rv_int v1; exact ⟨i, rfl, k _ _ H1 G1 e1 r1 int_rv h1⟩
  | _ => exact h1.elim

theorem pi_seq {tg l : Expr} {tl : TE} (hl : PE X l tl) : PI X tg l (fun σ H R => tl σ H fun x H1 => (∃ a, x = .ref a ∧ (∃ xs, SqL X.K H1 a xs) ∧ R (Itl X.K a) H1) ∨ ∃ a, x = .ref a ∧ (∃ xs, SqT X.K H1 a xs) ∧ R (Itt X.K a) H1) := by
  constructor
  intro pins s σ H R I h
  refine thn (hl.run pins s σ H _ I h) ?_
  rintro v s1 ⟨x, H1, I1, r1, q1⟩
  have fp : ∀ b ∈ [s1.heap.objs.size], FpOk X pins H1 b := by
    intro b hb
    obtain rfl : b = s1.heap.objs.size := by simpa using hb
    exact I1.fpOk (Nat.le_refl _) (I1.hok.fresh (Nat.le_refl _))
  rcases q1 with ⟨a, rfl, ⟨xs, hq⟩, q⟩ | ⟨a, rfl, ⟨xs, hq⟩, q⟩
  · cases r1
    obtain ⟨its, rv, p, hz⟩ := I1.list hq
    exact wpAny_pyIter_list p.isList ⟨_, [s1.heap.objs.size], _, _, H1, rfl, I1.kept (t' := s1.toks) (fun b o e => Heap.get?_push_of_some _ e), turn_list a _, ⟨_, Heap.get?_push_size _ rfl, rfl, rfl⟩, fp, q⟩
  · cases r1
    obtain ⟨its, rv, p, hz⟩ := I1.tuple hq
    exact wpAny_pyIter_tuple (show s1.heap.IsTuple a its.toArray from p) ⟨_, [s1.heap.objs.size], _, _, H1, rfl, I1.kept (t' := s1.toks) (fun b o e => Heap.get?_push_of_some _ e), turn_tuple a _, ⟨_, Heap.get?_push_size _ rfl, rfl, rfl⟩, fp, q⟩
@[simp] def iSq (te : DTE) : DTI := fun ρ G Q => te ρ G fun d G1 => match d with
  | .tup ds => Q ds okAll G1
  | .lst ds => Q ds okAll G1
  | .ref a => (match G1 a with
    | some (.lst ds) => Q ds (fun G => G a = some (.lst ds)) G1
    | _ => False)
  | _ => False
theorem di_seq {tg e : Expr} {te : DTE} (he : DE X e te) : DI X tg e (iSq te) := by
  refine (pi_seq he).imp fun σ H R ⟨ρ, G, q, r, h, k⟩ => ?_
  refine ⟨ρ, G, _, r, h, fun v d H1 G1 e1 r1 v1 h1 => ?_⟩
  cases d with
  | tup ds =>
    unfold RepV at v1
    obtain ⟨a, xs, rfl, ta, rl⟩ := v1
    refine .inr ⟨a, rfl, ⟨xs, ta.sq⟩, k _ ds okAll H1 G1 e1 r1 (fun G2 H2 e2 g2 _ i => ⟨fun d hd => ?_, fun hi => ⟨xs, (ta.ext e2).sq, by rw [rl.length]; exact Nat.le_of_eq hi.symm⟩⟩) h1⟩
    obtain ⟨x, hx, rx⟩ := (rl.ext e2).get hd
    refine ⟨⟨xs, x, (ta.ext e2).sq, hx⟩, fun y H3 hy => ?_⟩
    obtain ⟨rfl, hy⟩ := hy
    have e := hy xs (ta.ext e2).sq
    rw [hx] at e
    cases e
    exact ⟨Ext.refl _ _, g2, rx⟩
  | lst ds =>
    unfold RepV at v1
    obtain ⟨a, xs, rfl, ta, rl⟩ := v1
    refine .inl ⟨a, rfl, ⟨xs, ta.sq⟩, k _ ds okAll H1 G1 e1 r1 (fun G2 H2 e2 g2 _ i => ⟨fun d hd => ?_, fun hi => ⟨xs, (ta.ext e2).sq, by rw [rl.length]; exact Nat.le_of_eq hi.symm⟩⟩) h1⟩
    obtain ⟨x, hx, rx⟩ := (rl.ext e2).get hd
    refine ⟨⟨xs, x, (ta.ext e2).sq, hx⟩, fun y H3 hy => ?_⟩
    obtain ⟨rfl, hy⟩ := hy
    have e := hy xs (ta.ext e2).sq
    rw [hx] at e
    cases e
    exact ⟨Ext.refl _ _, g2, rx⟩
  | ref a =>
    cases rv_ref v1
    dsimp only at h1
    cases hg : G1 a with
    | none => rw [hg] at h1; exact h1.elim
    | some o =>
      rw [hg] at h1
      cases o with
      | lst ds =>
        obtain ⟨xs, hx, rx⟩ := r1.gok a _ hg
        refine .inl ⟨a, rfl, ⟨xs, SqL.of hx⟩, k _ ds (fun G => G a = some (.lst ds)) H1 G1 e1 r1 (fun G2 H2 e2 g2 ho i => ?_) h1⟩
        obtain ⟨ys, hy, ry⟩ := g2 a _ ho
        refine ⟨fun d hd => ?_, fun hi => ⟨ys, SqL.of hy, by rw [ry.length]; exact Nat.le_of_eq hi.symm⟩⟩
        obtain ⟨x, hx, rx⟩ := ry.get hd
        refine ⟨⟨ys, x, SqL.of hy, hx⟩, fun z H3 hz => ?_⟩
        obtain ⟨rfl, hz⟩ := hz
        have e := hz ys (SqL.of hy)
        rw [hx] at e
        cases e
        exact ⟨Ext.refl _ _, g2, rx⟩
      | dct _ => exact h1.elim
      | raw _ => exact h1.elim
      | ins _ _ => exact h1.elim
      | dtp _ => exact h1.elim
      | tab _ => exact h1.elim
      | slt _ _ => exact h1.elim
  | _ => exact h1.elim

end

structure Callee (P : Program) (w : World) (K : PySem.W.Frag) (mg : Str → Option Value) (base : Heap) (k : Nat) (x : Str) (ps : List Str) (sp : DSp) : Prop where
  ex : ∃ f fd, DFn P w K mg base k f fd ps sp ∧ mg x = some (.ref f) ∧ PySem.W.keepIn K (.ref f) = true ∧ Binds K fd ps [] ∧ KwB K fd ps ps (fun l => l)
theorem Callee.up {P : Program} {w : World} {K : PySem.W.Frag} {mg : Str → Option Value} {base : Heap} {j k : Nat} {x : Str} {ps : List Str} {sp : DSp} (C : Callee P w K mg base j x ps sp) (h : j ≤ k) : Callee P w K mg base k x ps sp := by
  obtain ⟨f, fd, F, a⟩ := C.ex
  exact ⟨f, fd, F.up h, a⟩
section
variable {X : Cx} {k : Nat} {x : Str} {ps : List Str} {sp : DSp} {p pos : Pos} {e : Expr} {es : List Expr} {ta : DTA} {kws : List Keyword}
theorem dc (C : Callee X.prog X.w X.K X.mg X.base k x ps sp) (hr : Room k X.A) (hgd : X.A.guards = some []) (hg : Gl X x) (ha : DA X (e :: es) ta) (hdb : (x == ("__debug__" : Str)) = false := by decide)
    (he : starEach (e :: es) X.env = (false, eval e X.env) :: starEach es X.env := by rfl) (hpl : (backTo pos (starEach es X.env)).any (·.1) = false := by rfl) : DE X (.Call (.Name x p) (e :: es) [] pos) (dCall sp ta) := by
  obtain ⟨f, fd, F, hm, hk, hb, _⟩ := C.ex
  exact de_call F hr hgd hg hm hk hb ha hdb he hpl
theorem callee_of {P : Program} {w : World} {K : PySem.W.Frag} {mg : Str → Option Value} {base : Heap} {qual : Str} {params : Arguments} {body : List Stmt} {scope : Scope} {f : Addr} {fd : FuncData}
    (F : FunD K x qual params body scope [] [] f fd) (hm : mg x = some (.ref f)) (D : DFn P w K mg base k f fd ps sp)
    (b1 : ∀ (kV doc pm : Value) (an : Option Addr) (cdv ct : Value) (us : List Value), us.length = ps.length → bindArgs (PySem.W.fnOf x qual params body scope .none kV doc pm an cdv ct) ⟨us, []⟩ = pure (ps.zip us))
    (b2 : ∀ (kV doc pm : Value) (an : Option Addr) (cdv ct : Value) (us : List Value), us.length = ps.length → bindArgs (PySem.W.fnOf x qual params body scope .none kV doc pm an cdv ct) ⟨[], ps.zip us⟩ = pure (ps.zip us)) : Callee P w K mg base k x ps sp := by
  refine ⟨f, fd, D, hm, F.kp, F.bindsN b1, ⟨?_, fun r => r, fun r => r⟩⟩
  intro s ws hl
  obtain ⟨oc, od, dV, kV, doc, pm, an, cdv, ct, osl, rfl, lk, hcd, hD, hK⟩ := F.ex
  rcases hD with ⟨_, rfl⟩ | ⟨e, _⟩
  · exact .of_eq (b2 kV doc pm an cdv ct ws hl)
  · exact absurd rfl e
end

mutual
def repB (K : PySem.W.Frag) : D → Value → Bool
  | .non, u => (match u with
    | .none => true
    | _ => false)
  | .bl b, u => (match u with
    | .bool c => b == c
    | _ => false)
  | .int i, u => (match u with
    | .int j _ => decide (i = j)
    | _ => false)
  | .str x, u => (match u with
    | .str y _ => decide (x = y)
    | _ => false)
  | .tup ds, u => (match u with
    | .ref a => (match K.lookup a with
      | some ⟨.type c, _, .seq its _, _⟩ => decide (c = "tuple") && (decide (its.size ≤ sizeLine) && ((!ds.isEmpty || kempB K) && repBs K ds its.toList))
      | _ => false)
    | _ => false)
  | _, _ => false
def repBs (K : PySem.W.Frag) : List D → List Value → Bool
  | [], [] => true
  | d :: ds, u :: us => repB K d u && repBs K ds us
  | _, _ => false
end
mutual
theorem repB_ok {K : PySem.W.Frag} : ∀ {d : D} {u : Value}, repB K d u = true → ∃ v, RelV v u ∧ ∀ G H, RepV K G H d v
  | .non, u, h => by
    unfold repB at h
    cases u with
    | none => exact ⟨.non, rfl, fun _ _ => non_rv⟩
    | _ => cases h
  | .bl b, u, h => by
    unfold repB at h
    cases u with
    | bool c => exact ⟨.bl c, rfl, fun _ _ => by rw [eq_of_beq h]; exact bl_rv⟩
    | _ => cases h
  | .int i, u, h => by
    unfold repB at h
    cases u with
    | int j t => exact ⟨.int i, ⟨t, by rw [of_decide_eq_true h]⟩, fun _ _ => int_rv⟩
    | _ => cases h
  | .str i, u, h => by
    unfold repB at h
    cases u with
    | str j t => exact ⟨.str i, ⟨t, by rw [of_decide_eq_true h]⟩, fun _ _ => str_rv⟩
    | _ => cases h
  | .tup ds, u, h => by
    unfold repB at h
    cases u with
    | ref a =>
      dsimp only at h
      cases q : K.lookup a with
      | none => rw [q] at h; cases h
      | some o =>
        obtain ⟨oc, od, dt, osl⟩ := o
        rw [q] at h
        cases oc with
        | type c =>
          cases dt with
          | seq its n =>
            dsimp only at h
            rw [Bool.and_eq_true, Bool.and_eq_true, Bool.and_eq_true] at h
            obtain ⟨h1, h2, h0, h3⟩ := h
            obtain ⟨xs, rl, rp⟩ := repBs_ok h3
            refine ⟨.ref a, rfl, fun G H => ?_⟩
            have hx : xs = [] → kempB K = true := fun hx => by
              cases ds with
              | nil => simpa using h0
              | cons d ds =>
                have z := rp G H
                unfold RepL at z
                obtain ⟨_, _, e, _⟩ := z
                rw [hx] at e; cases e
            unfold RepV
            exact ⟨a, xs, rfl, .inr ⟨hx, _, its, n, q, by rw [of_decide_eq_true h1], rfl, of_decide_eq_true h2, rl⟩, rp G H⟩
          | _ => cases h
        | _ => cases dt <;> cases h
    | _ => cases h
  | .byt _, u, h => by unfold repB at h; cases h
  | .lst _, u, h => by unfold repB at h; cases h
  | .ref _, u, h => by unfold repB at h; cases h
  | .scr _, u, h => by unfold repB at h; cases h
theorem repBs_ok {K : PySem.W.Frag} : ∀ {ds : List D} {us : List Value}, repBs K ds us = true → ∃ xs, Vals xs us ∧ ∀ G H, RepL K G H ds xs
  | [], [], _ => ⟨[], .nil, fun _ _ => repL_nil⟩
  | [], _ :: _, h => by unfold repBs at h; cases h
  | _ :: _, [], h => by unfold repBs at h; cases h
  | d :: ds, u :: us, h => by
    unfold repBs at h
    rw [Bool.and_eq_true] at h
    obtain ⟨v, r1, p1⟩ := repB_ok h.1
    obtain ⟨xs, r2, p2⟩ := repBs_ok h.2
    exact ⟨v :: xs, .cons r1 r2, fun G H => repL_cons (p1 G H) (p2 G H)⟩
end
inductive Fx where
  | glo (x : Str)
  | free (x : Str)
  | dat (x : Str) (d : D)
  /-- a fact of a class -/
  | fa (f : He.Fa)
  /-- any other look at the written part -/
  | kb (f : PySem.W.Frag → Bool)
def Fx.ok (K : PySem.W.Frag) : Fx → Bool
  | .glo x => (He.Fa.glo x).ok K
  | .free x => (He.Fa.free x).ok K
  | .dat x d => (match PySem.W.nsIn K mainGlobals x with
    | some (some u) => repB K d u
    | _ => false)
  | .fa f => f.ok K
  | .kb f => f K
theorem dat_ok {K : PySem.W.Frag} {h : Heap} {mg : Str → Option Value} (X : K.In h) (G : h.Ns mainGlobals mg) {x : Str} {d : D} (c : (Fx.dat x d).ok K = true) : ∃ u, mg x = some u ∧ ∃ v, RelV v u ∧ ∀ G H, RepV K G H d v := by
  have c2 : (match PySem.W.nsIn K mainGlobals x with
    | some (some u) => repB K d u
    | _ => false) = true := c
  cases e : PySem.W.nsIn K mainGlobals x with
  | none => rw [e] at c2; cases c2
  | some o =>
    rw [e] at c2
    cases o with
    | none => cases c2
    | some u => exact ⟨u, PySem.W.mg_of X G e, repB_ok c2⟩
def obsX (fx : List Fx) (fn : List He.DefD) (K : PySem.W.Frag) : He.AlD := ((fx.all fun f => f.ok K) && fn.all fun d => d.ok K, fn.map fun d => He.fnW K d.at_)
def SaysX (fx : List Fx) (fn : List He.DefD) (K : PySem.W.Frag) : Prop := obsX fx fn K = He.valD fn
section
variable {fx : List Fx} {fn : List He.DefD} {K : PySem.W.Frag}
theorem SaysX.fact (c : SaysX fx fn K) (i : Nat) {f : Fx} (h : fx[i]? = some f := by rfl) : f.ok K = true := by
  have c1 := (He.ba (show ((fx.all fun f => f.ok K) && fn.all fun d => d.ok K) = true from congrArg (fun z : He.AlD => z.1) c)).1
  exact List.all_eq_true.mp c1 f (List.mem_of_getElem? h)
theorem SaysX.def_ (c : SaysX fx fn K) (i : Nat) {d : He.DefD} (h : fn[i]? = some d := by rfl) : ∃ fd, FunD K d.name d.qual d.params d.body d.scope (d.dvs K) (d.kws K) (He.fAd K d.at_) fd := by
  have c2 := (He.ba (show ((fx.all fun f => f.ok K) && fn.all fun d => d.ok K) = true from congrArg (fun z : He.AlD => z.1) c)).2
  have e : fn.map (fun d => He.fnW K d.at_) = fn.map He.DefD.val := congrArg (fun z : He.AlD => z.2) c
  have e2 : (fn.map fun d => He.fnW K d.at_)[i]? = (fn.map He.DefD.val)[i]? := by rw [e]
  rw [List.getElem?_map, List.getElem?_map, h] at e2
  exact He.DefD.funD (Option.some.inj e2) (List.all_eq_true.mp c2 d (List.mem_of_getElem? h))
end
end Dl

namespace Dl
open PySem L2

abbrev DZ := DX → DSt → GH → Prop
abbrev XTE := DZ → DTE
abbrev XTA := DZ → DTA
abbrev XTT := DZ → DTT
abbrev XTS := DZ → DTS
def ZOk (K : PySem.W.Frag) (W : WX) (G : GH) (H : Hp) (Z : DZ) : Prop := ∀ x c od σ' H' ρ' G', Ext G H G' H' → DRel K σ' H' ρ' G' → ExcRep K G' H' x c od → Z x ρ' G' → W c od σ' H'
theorem ZOk.ext {K : PySem.W.Frag} {W : WX} {G G1 : GH} {H H1 : Hp} {Z : DZ} (z : ZOk K W G H Z) (e : Ext G H G1 H1) : ZOk K W G1 H1 Z := fun x c od σ' H' ρ' G' e2 => z x c od σ' H' ρ' G' (e.trans e2)
def upX (K : PySem.W.Frag) (W : WX) (t : XTE) : TE := fun σ H Qv => ∃ ρ G Q Z, DRel K σ H ρ G ∧ t Z ρ G Q ∧ (∀ v d H' G', Ext G H G' H' → DRel K σ H' ρ G' → RepV K G' H' d v → Q d G' → Qv v H') ∧ ZOk K W G H Z
def upXT (K : PySem.W.Frag) (W : WX) (t : XTT) : TT := fun σ H Qv => ∃ ρ G Q Z, DRel K σ H ρ G ∧ t Z ρ G Q ∧ (∀ b H' G', Ext G H G' H' → DRel K σ H' ρ G' → Q b G' → Qv b H') ∧ ZOk K W G H Z
def upXA (K : PySem.W.Frag) (W : WX) (t : XTA) : TA := fun σ H Qv => ∃ ρ G Q Z, DRel K σ H ρ G ∧ t Z ρ G Q ∧ (∀ vs ds H' G', Ext G H G' H' → DRel K σ H' ρ G' → RepL K G' H' ds vs → Q ds G' → Qv vs H') ∧ ZOk K W G H Z
def upXS (K : PySem.W.Frag) (W : WX) (t : XTS) : TS := fun Dv σ H => ∃ (ρ : DSt) (G : GH) (E : DEnds) (Z : DZ), DRel K σ H ρ G ∧ t Z E ρ G ∧
  (∀ σ' ρ' H' G', Ext G H G' H' → DRel K σ' H' ρ' G' → E.nx ρ' G' → Dv.nx σ' H') ∧
  (∀ v d H' G', Ext G H G' H' → GOk K G' H' → RepV K G' H' d v → E.rt d G' → Dv.rt v H') ∧
  (∀ σ' ρ' H' G', Ext G H G' H' → DRel K σ' H' ρ' G' → E.bk ρ' G' → Dv.bk σ' H') ∧
  (∀ σ' ρ' H' G', Ext G H G' H' → DRel K σ' H' ρ' G' → E.ct ρ' G' → Dv.ct σ' H') ∧ ZOk K W G H Z
abbrev XE1 (X : Cx) (W : WX) (e : Expr) (t : XTE) : Prop := PE X e (upX X.K W t)
abbrev XT1 (X : Cx) (W : WX) (e : Expr) (t : XTT) : Prop := PT X e (upXT X.K W t)
abbrev XA1 (X : Cx) (W : WX) (es : List Expr) (t : XTA) : Prop := PA X es (upXA X.K W t)
abbrev XS1 (X : Cx) (W : WX) (st : Stmt) (t : XTS) : Prop := PS X st (upXS X.K W t)
abbrev XSs (X : Cx) (W : WX) (sts : List Stmt) (t : XTS) : Prop := PSs X sts (upXS X.K W t)

section
variable {X : Cx} {W : WX}
@[simp] def xPe (t : DTE) : XTE := fun _ => t
@[simp] def xPa (t : DTA) : XTA := fun _ => t
@[simp] def xPt (t : DTT) : XTT := fun _ => t
@[simp] def xPs (t : DTS) : XTS := fun _ => t
theorem xe_p {e : Expr} {t : DTE} (h : DE X e t) : XE1 X W e (xPe t) := PE.imp h fun σ H Q ⟨ρ, G, q, Z, r, h, k, _⟩ => ⟨ρ, G, q, r, h, k⟩
theorem xa_p {es : List Expr} {t : DTA} (h : DA X es t) : XA1 X W es (xPa t) := PA.imp h fun σ H Q ⟨ρ, G, q, Z, r, h, k, _⟩ => ⟨ρ, G, q, r, h, k⟩
theorem xt_p {e : Expr} {t : DTT} (h : DT X e t) : XT1 X W e (xPt t) := PT.imp h fun σ H Q ⟨ρ, G, q, Z, r, h, k, _⟩ => ⟨ρ, G, q, r, h, k⟩
theorem xs_p {st : Stmt} {t : DTS} (h : DS X st t) : XS1 X W st (xPs t) := PS.imp h fun D σ H ⟨ρ, G, E, Z, r, h, k1, k2, k3, k4, _⟩ => ⟨ρ, G, E, r, h, k1, k2, k3, k4⟩
theorem xss_p {st : List Stmt} {t : DTS} (h : DSs X st t) : XSs X W st (xPs t) := PSs.imp h fun D σ H ⟨ρ, G, E, Z, r, h, k1, k2, k3, k4, _⟩ => ⟨ρ, G, E, r, h, k1, k2, k3, k4⟩

@[simp] def xCons (ta : XTE) (tr : XTA) : XTA := fun Z ρ G Q => ta Z ρ G fun x G1 => tr Z ρ G1 fun xs G2 => Q (x :: xs) G2
theorem xa_cons {e : Expr} {es : List Expr} {te : XTE} {t : XTA} (ha : XE1 X W e te) (hr : XA1 X W es t) (hs : starEach (e :: es) X.env = (false, eval e X.env) :: starEach es X.env := by rfl) : XA1 X W (e :: es) (xCons te t) := by
  refine (pa_cons ha hr hs).imp fun σ H Q ⟨ρ, G, q, Z, r, h, k, z⟩ => ?_
  refine ⟨ρ, G, _, Z, r, h, fun v d H1 G1 e1 r1 v1 h1 => ?_, z⟩
  refine ⟨ρ, G1, _, Z, r1, h1, fun vs ds H2 G2 e2 r2 v2 h2 => ?_, z.ext e1⟩
  exact k (v :: vs) (d :: ds) H2 G2 (e1.trans e2) r2 (repL_cons (v1.ext e2) v2) h2
@[simp] def xOp (r : DR2) (ta tb : XTE) : XTE := fun Z ρ G Q => ta Z ρ G fun x G1 => tb Z ρ G1 fun y G2 => r x y G2 Q
theorem up_xop {K : PySem.W.Frag} {r : DR2} {ta tb : XTE} {σ : St} {H : Hp} {Q : VK} (h : upX K W (xOp r ta tb) σ H Q) : tOp (upR K r) (upX K W ta) (upX K W tb) σ H Q := by
  obtain ⟨ρ, G, q, Z, r0, h, k, z⟩ := h
  refine ⟨ρ, G, _, Z, r0, h, fun x dx H1 G1 e1 r1 v1 h1 => ?_, z⟩
  refine ⟨ρ, G1, _, Z, r1, h1, fun y dy H2 G2 e2 r2 v2 h2 => ?_, z.ext e1⟩
  exact ⟨G2, dx, dy, q, r2.gok, v1.ext e2, v2, h2, fun v d H' G' e3 g3 v3 h3 => k v d H' G' ((e1.trans e2).trans e3) (r2.ext e3 g3) v3 h3⟩
theorem xe_op {op : Operator} {r : DR2} {a b : Expr} {ta tb : XTE} {pos : Pos} (ho : DOp X (binaryOp op) r) (ha : XE1 X W a ta) (hb : XE1 X W b tb) : XE1 X W (.BinOp a op b pos) (xOp r ta tb) := (pe_op ho ha hb).imp fun _ _ _ h => up_xop h
@[simp] def xTup (t : XTA) : XTE := fun Z ρ G Q => t Z ρ G fun xs G1 => xs.length ≤ sizeLine ∧ Q (.tup xs) G1
theorem xe_tup {es : List Expr} {t : XTA} {x1} {pos : Pos} (h : XA1 X W es t) : XE1 X W (.Tuple es x1 pos) (xTup t) := by
  refine (pe_tup h).imp fun σ H Q ⟨ρ, G, q, Z, r, h, k, z⟩ => ?_
  refine ⟨ρ, G, _, Z, r, h, fun vs ds H1 G1 e1 r1 v1 ⟨zl, h1⟩ => ⟨by rw [v1.length]; exact zl, fun p hp => ?_⟩, z⟩
  obtain ⟨e2, r2, v2⟩ := r1.newTup hp v1
  exact k _ _ _ _ (e1.trans e2) r2 v2 h1
@[simp] def xSeq (t u : XTS) : XTS := fun Z E ρ G => t Z { E with nx := u Z E } ρ G
theorem xs_one {st : Stmt} {t : XTS} (h : XS1 X W st t) : XSs X W [st] t := pss_one h
theorem xs_cons {st : Stmt} {rest : List Stmt} {t u : XTS} (h : XS1 X W st t) (h2 : XSs X W rest u) : XSs X W (st :: rest) (xSeq t u) := by
  refine (pss_cons h h2).imp fun D σ H ⟨ρ, G, E, Z, r, h, k1, k2, k3, k4, z⟩ => ?_
  refine ⟨ρ, G, { E with nx := u Z E }, Z, r, h, fun σ' ρ' H' G' e r' h' => ?_, k2, k3, k4, z⟩
  exact ⟨ρ', G', E, Z, r', h', fun a b c d e' => k1 a b c d (e.trans e'), fun a b c d e' => k2 a b c d (e.trans e'), fun a b c d e' => k3 a b c d (e.trans e'), fun a b c d e' => k4 a b c d (e.trans e'), z.ext e⟩
@[simp] def xDrop (te : XTE) : XTS := fun Z E ρ G => te Z ρ G fun _ G1 => E.nx ρ G1
theorem xs_expr {e : Expr} {te : XTE} {pos : Pos} (he : XE1 X W e te) (hs : swapsWith e none pos.line X.env = pure false := by rfl) : XS1 X W (.Expr e pos) (xDrop te) := by
  refine (ps_expr he hs).imp fun D σ H ⟨ρ, G, E, Z, r, h, k1, k2, k3, k4, z⟩ => ?_
  exact ⟨ρ, G, _, Z, r, h, fun v d H' G' e r' v' h' => k1 σ ρ H' G' e r' h', z⟩
@[simp] def xRet (te : XTE) : XTS := fun Z E ρ G => te Z ρ G E.rt
theorem xs_ret {e : Expr} {te : XTE} {pos : Pos} (he : XE1 X W e te) : XS1 X W (.Return (some e) pos) (xRet te) := by
  refine (ps_ret he).imp fun D σ H ⟨ρ, G, E, Z, r, h, _, k2, _, _, z⟩ => ?_
  exact ⟨ρ, G, _, Z, r, h, fun v d H' G' e r' v' h' => k2 v d H' G' e r'.gok v' h', z⟩
@[simp] def xIfS (c : XTT) (t u : XTS) : XTS := fun Z E ρ G => c Z ρ G fun b G1 => if b = true then t Z E ρ G1 else u Z E ρ G1
theorem xs_if {c : Expr} {a b : List Stmt} {tc : XTT} {t u : XTS} {pos : Pos} (hc : XT1 X W c tc) (ha : XSs X W a t) (hb : XSs X W b u) : XS1 X W (.If c a b pos) (xIfS tc t u) := by
  refine (ps_if hc ha hb).imp fun D σ H ⟨ρ, G, E, Z, r, h, k1, k2, k3, k4, z⟩ => ?_
  refine ⟨ρ, G, _, Z, r, h, fun b H1 G1 e1 r1 h1 => ?_, z⟩
  cases b with
  | true => exact ⟨ρ, G1, E, Z, r1, h1, fun a b c d e' => k1 a b c d (e1.trans e'), fun a b c d e' => k2 a b c d (e1.trans e'), fun a b c d e' => k3 a b c d (e1.trans e'), fun a b c d e' => k4 a b c d (e1.trans e'), z.ext e1⟩
  | false => exact ⟨ρ, G1, E, Z, r1, h1, fun a b c d e' => k1 a b c d (e1.trans e'), fun a b c d e' => k2 a b c d (e1.trans e'), fun a b c d e' => k3 a b c d (e1.trans e'), fun a b c d e' => k4 a b c d (e1.trans e'), z.ext e1⟩
@[simp] def xAsg (te : XTE) (g : DTG) : XTS := fun Z E ρ G => te Z ρ G fun x G1 => g x ρ G1 E.nx
theorem xs_set {i : Nat} {x : Str} {e : Expr} {te : XTE} {pos pos' : Pos} (hN : X.N.Nodup) (hi : X.N[i]? = some x) (hx : Loc X.env.scope x) (he : XE1 X W e te) (hs : swapsWith e (some (.Name x pos')) pos.line X.env = pure false := by rfl) (hf : X.fn x = true ∨ X.env.scope.names.lookup x = some .local := by first | exact .inl rfl | exact .inr rfl | assumption) :
    XS1 X W (.Assign [.Name x pos'] e pos) (xAsg te (gNm i)) := by
  refine (ps_set hN hi hx he hs hf).imp fun D σ H ⟨ρ, G, E, Z, r, h, k1, k2, k3, k4, z⟩ => ?_
  refine ⟨ρ, G, _, Z, r, h, fun v d H1 G1 e1 r1 v1 h1 => ?_, z⟩
  exact k1 _ _ H1 G1 e1 (r1.set i v1) h1

def xWhileGo (Z : DZ) (c : XTT) (tb : XTS) : Nat → DTS
  | 0, _, _, _ => False
  | n + 1, E, ρ, G => c Z ρ G fun b G1 => if b = true then tb Z { E with nx := xWhileGo Z c tb n E, ct := xWhileGo Z c tb n E, bk := E.nx } ρ G1 else E.nx ρ G1
def xWhile (c : XTT) (tb : XTS) : XTS := fun Z E ρ G => ∃ n, xWhileGo Z c tb n E ρ G
theorem xs_while {c : Expr} {body : List Stmt} {tc : XTT} {tb : XTS} {pos : Pos} (hp : PassesOwn (model X.prog X.w) X.A X.env X.xe) (hc : XT1 X W c tc) (hb : XSs X W body tb) : XS1 X W (.While c body [] pos) (xWhile tc tb) := by
  refine (ps_while hp hc hb).imp fun D σ H ⟨ρ, G, E, Z, r, ⟨n, h⟩, k1, k2, k3, k4, z⟩ => ?_
  refine ⟨fun m σ1 H1 => ∃ ρ1 G1, Ext G H G1 H1 ∧ DRel X.K σ1 H1 ρ1 G1 ∧ xWhileGo Z tc tb m E ρ1 G1, ⟨n, ρ, G, Ext.refl G H, r, h⟩, ?_⟩
  rintro m σ1 H1 ⟨ρ1, G1, e1, r1, h1⟩
  cases m with
  | zero => exact h1.elim
  | succ m =>
    unfold xWhileGo at h1
    refine ⟨ρ1, G1, _, Z, r1, h1, fun b H2 G2 e2 r2 h2 => ?_, z.ext e1⟩
    cases b with
    | false => exact k1 σ1 ρ1 H2 G2 (e1.trans e2) r2 h2
    | true =>
      refine ⟨fun σ3 H3 => ∃ ρ3 G3, Ext G H G3 H3 ∧ DRel X.K σ3 H3 ρ3 G3 ∧ xWhileGo Z tc tb m E ρ3 G3, fun σ3 H3 q => ⟨m, Nat.lt_succ_self m, q⟩, ?_⟩
      refine ⟨ρ1, G2, _, Z, r2, h2, ?_, ?_, ?_, ?_, z.ext (e1.trans e2)⟩
      · exact fun σ' ρ' H' G' e' r' h' => ⟨ρ', G', (e1.trans e2).trans e', r', h'⟩
      · exact fun v d H' G' e' => k2 v d H' G' ((e1.trans e2).trans e')
      · exact fun σ' ρ' H' G' e' r' h' => k1 σ' ρ' H' G' ((e1.trans e2).trans e') r' h'
      · exact fun σ' ρ' H' G' e' r' h' => ⟨ρ', G', (e1.trans e2).trans e', r', h'⟩
def xFor (wi : DTI) (g : DTG) (tb : XTS) : XTS := fun Z E ρ G => wi ρ G fun items ok G1 => dForGo ok g (tb Z) items E ρ G1
theorem xs_for {tg iter : Expr} {body : List Stmt} {wi : DTI} {g : DTG} {tb : XTS} {pos : Pos} (hp : PassesOwn (model X.prog X.w) X.A X.env X.xe) (hc : X.calm = true) (hi : DI X tg iter wi) (hg : DG X tg g) (hb : XSs X W body tb)
    (hs : ∀ x, foldedSetIterable iter X.env x = pure x := by intro _; rfl) : XS1 X W (.For tg iter body [] pos) (xFor wi g tb) := by
  refine (ps_for hp hc hi hg hb hs).imp fun D σ H ⟨ρ, G, E, Z, r, h, k1, k2, k3, k4, z⟩ => ?_
  refine ⟨ρ, G, _, r, h, fun J items ok H1 G1 e1 r1 it h1 => ?_⟩
  refine ⟨fun i m σ2 H2 => m = items.length - i ∧ i ≤ items.length ∧ ∃ ρ2 G2, Ext G1 H1 G2 H2 ∧ DRel X.K σ2 H2 ρ2 G2 ∧ dForGo ok g (tb Z) (items.drop i) E ρ2 G2, ⟨items.length, rfl, Nat.zero_le _, ρ, G1, Ext.refl _ _, r1, h1⟩, ?_⟩
  rintro i m σ2 H2 ⟨rfl, hi, ρ2, G2, e2, r2, h2⟩
  by_cases hlt : i < items.length
  · rw [List.drop_eq_getElem_cons hlt] at h2
    unfold dForGo at h2
    obtain ⟨ho, h2⟩ := h2
    obtain ⟨a, b⟩ := it G2 H2 e2 r2.gok ho i
    obtain ⟨go, yl⟩ := a items[i] (List.getElem?_eq_getElem hlt)
    refine .inr ⟨go, fun σ3 H3 => ∃ ρ3 G3, Ext G1 H1 G3 H3 ∧ DRel X.K σ3 H3 ρ3 G3 ∧ dForGo ok g (tb Z) (items.drop (i + 1)) E ρ3 G3, fun σ3 H3 ⟨ρ3, G3, q⟩ => ⟨items.length - (i + 1), by omega, rfl, hlt, ρ3, G3, q⟩, fun x H3 hy => ?_⟩
    obtain ⟨e3, g3, rx⟩ := yl x H3 hy
    refine ⟨ρ2, G2, items[i], _, r2.ext e3 g3, rx, h2, fun σ4 ρ4 H4 G4 e4 r4 h4 => ?_⟩
    have e5 := (e2.trans e3).trans e4
    refine ⟨ρ4, G4, _, Z, r4, h4, ?_, ?_, ?_, ?_, z.ext (e1.trans e5)⟩
    · exact fun σ' ρ' H' G' e' r' h' => ⟨ρ', G', e5.trans e', r', h'⟩
    · exact fun v d H' G' e' => k2 v d H' G' ((e1.trans e5).trans e')
    · exact fun σ' ρ' H' G' e' r' h' => k1 σ' ρ' H' G' ((e1.trans e5).trans e') r' h'
    · exact fun σ' ρ' H' G' e' r' h' => ⟨ρ', G', e5.trans e', r', h'⟩
  · have e : i = items.length := by omega
    subst e
    rw [List.drop_length] at h2
    unfold dForGo at h2
    exact .inl ⟨(it G2 H2 e2 r2.gok h2.1 _).2 rfl, k1 σ2 ρ2 H2 G2 (e1.trans e2) r2 h2.2⟩
end

abbrev XFn (P : Program) (w : World) (K : PySem.W.Frag) (mg : Str → Option Value) (base : Heap) (k : Nat) (f : Addr) (fd : FuncData) (ps : List Str) (sp : DSp) : Prop := GFn P w K mg base (L2.CX P w) k f fd ps (toSp K sp)
section
variable {X : Cx} {W : WX} {CX : CXT} {k : Nat} {f : Addr} {fd : FuncData} {ps : List Str} {x : Str} {p pos : Pos} {e : Expr} {es : List Expr} {E : St → XK}
theorem g_runS {sp : Sp} {pins : List (Addr × Obj)} {σ : St} {H : Hp} {s : Shared} {Q : VK} {us : List Value} {xs : List V} (F : GFn X.prog X.w X.K X.mg X.base CX k f fd ps sp) (hr : Room k X.A) (hgd : X.A.guards = some []) (hb : Binds X.K fd ps []) (hx : PassesAt CX X σ (E σ))
    (I : Inv X pins σ H s) (r : Vals xs us) (h : sp xs H Q (E σ)) : wpAny (model X.prog X.w) X.A (PySem.call (.ref f) us) (EP X pins σ Q) X.xe s := by
  have al : (us ++ []).length = ps.length := by rw [List.append_nil, ← r.length]; exact F.arity _ _ _ _ h
  have bd := hb s us I.kIn al
  rw [List.append_nil] at bd
  refine wpAny_call (codeAny_mono (F.go X.A X.stack s H ⟨us, []⟩ us xs Q (E σ) hr hgd I.env0 bd r h) ?_)
  intro res s2 hq
  match res, hq with
  | .error er, hq => exact hx pins H s er s2 I hq
  | .ok (.ret u), hq => exact I.after hq
theorem gx_call {sp : Sp} {t : TA} (F : GFn X.prog X.w X.K X.mg X.base CX k f fd ps sp) (hr : Room k X.A) (hgd : X.A.guards = some []) (hg : Gl X x) (hm : X.mg x = some (.ref f)) (hk : PySem.W.keepIn X.K (.ref f) = true) (hb : Binds X.K fd ps []) (hx : ∀ σ, PassesAt CX X σ (E σ))
    (ha : PA X (e :: es) t) (hdb : (x == ("__debug__" : Str)) = false := by decide) (he : starEach (e :: es) X.env = (false, eval e X.env) :: starEach es X.env := by rfl) (hpl : (backTo pos (starEach es X.env)).any (·.1) = false := by rfl) :
    PE X (.Call (.Name x p) (e :: es) [] pos) (fun σ H Q => t σ H fun vs H1 => sp vs H1 Q (E σ)) := by
  constructor
  intro pins s σ H Q I h
  refine wpAny_Call_Name_kw (ld_glob I hg hm ?_ hdb)
  refine PySem.W.callWith_K (h₀ := X.base) I.ok.mod.kin hk ?_ he hpl
  refine thn (ha.run pos pins s σ H _ I h) ?_
  rintro us s1 ⟨xs, H1, I1, r, q⟩
  exact ⟨I1.kIn, g_runS F hr hgd hb (hx σ) I1 r q⟩
end
@[simp] def xCall (sp : DSp) (ta : XTA) : XTE := fun Z ρ G Q => ta Z ρ G fun ds G1 => sp ds G1 Q fun x G2 => Z x ρ G2
theorem spx_at {K : PySem.W.Frag} {W : WX} {sp : DSp} {σ : St} {H : Hp} {ρ : DSt} {G : GH} {Q : VK} {q : DK} {Z : DZ} {vs : List V} {ds : List D} (r : DRel K σ H ρ G) (v : RepL K G H ds vs) (h : sp ds G q fun x G2 => Z x ρ G2)
    (k : ∀ v d H' G', Ext G H G' H' → DRel K σ H' ρ G' → RepV K G' H' d v → q d G' → Q v H') (z : ZOk K W G H Z) : toSp K sp vs H Q (WE W σ) :=
  ⟨ds, G, q, _, v, r.gok, h, fun v d H' G' e2 g2 v2 h2 => k v d H' G' e2 (r.ext e2 g2) v2 h2, fun x c od H' G' e2 g2 rx hz => z x c od σ H' ρ G' e2 (r.ext e2 g2) rx hz⟩
structure XCallee (P : Program) (w : World) (K : PySem.W.Frag) (mg : Str → Option Value) (base : Heap) (k : Nat) (x : Str) (ps : List Str) (sp : DSp) : Prop where
  ex : ∃ f fd, XFn P w K mg base k f fd ps sp ∧ mg x = some (.ref f) ∧ PySem.W.keepIn K (.ref f) = true ∧ Binds K fd ps [] ∧ KwB K fd ps ps (fun l => l)
theorem XCallee.up {P : Program} {w : World} {K : PySem.W.Frag} {mg : Str → Option Value} {base : Heap} {j k : Nat} {x : Str} {ps : List Str} {sp : DSp} (C : XCallee P w K mg base j x ps sp) (h : j ≤ k) : XCallee P w K mg base k x ps sp := by
  obtain ⟨f, fd, F, a⟩ := C.ex
  exact ⟨f, fd, F.up h, a⟩
section
variable {X : Cx} {W : WX} {k : Nat} {f : Addr} {fd : FuncData} {ps : List Str} {sp : DSp} {x : Str} {p pos : Pos} {e : Expr} {es : List Expr} {ta : XTA}
theorem xc (C : XCallee X.prog X.w X.K X.mg X.base k x ps sp) (tk : Takes X W) (hr : Room k X.A) (hgd : X.A.guards = some []) (hg : Gl X x) (ha : XA1 X W (e :: es) ta) (hdb : (x == ("__debug__" : Str)) = false := by decide)
    (he : starEach (e :: es) X.env = (false, eval e X.env) :: starEach es X.env := by rfl) (hpl : (backTo pos (starEach es X.env)).any (·.1) = false := by rfl) : XE1 X W (.Call (.Name x p) (e :: es) [] pos) (xCall sp ta) := by
  obtain ⟨f, fd, F, hm, hk, hb, _⟩ := C.ex
  refine (gx_call F hr hgd hg hm hk hb (passAt tk) ha hdb he hpl).imp fun σ H Q ⟨ρ, G, q, Z, r, h, k, z⟩ => ?_
  refine ⟨ρ, G, _, Z, r, h, fun vs ds H1 G1 e1 r1 v1 h1 => ?_, z⟩
  exact spx_at r1 v1 h1 (fun v d H' G' e2 r2 v2 h2 => k v d H' G' (e1.trans e2) r2 v2 h2) (z.ext e1)
end

theorem xfn_of {P : Program} {w : World} {K : PySem.W.Frag} {mg : Str → Option Value} {base : Heap} {x qual : Str} {params : Arguments} {body : List Stmt} {scope : Scope} {dvs : List V} {kws : List (Str × V)} {f : Addr} {fd : FuncData}
    {N ps : List Str} {k : Nat} {sp : DSp} {t : XTS} (F : FunD K x qual params body scope dvs kws f fd) (S : FnScope N ps scope) (len : ∀ ds G Q E, sp ds G Q E → ds.length = ps.length)
    (hbody : ∀ (cdv : Value) (A : Around) (out : List Env) (st : Shared) (H : Hp) (E : XK), Room k (A.deeper (PyProof.Rows.envOfC qual scope st.heap.objs.size f cdv)) → (A.deeper (PyProof.Rows.envOfC qual scope st.heap.objs.size f cdv)).guards = some [] →
      Takes (cxOf (L2.CX P w) P w K mg base N qual scope f cdv A out st H E) (fun c d _ H' => E c d H') → PassesOwn (model P w) (A.deeper (PyProof.Rows.envOfC qual scope st.heap.objs.size f cdv)) (PyProof.Rows.envOfC qual scope st.heap.objs.size f cdv) (cxOf (L2.CX P w) P w K mg base N qual scope f cdv A out st H E).xe →
      XSs (cxOf (L2.CX P w) P w K mg base N qual scope f cdv A out st H E) (fun c d _ H' => E c d H') body t)
    (ok : ∀ ds G Q E, sp ds G Q E → t (fun x _ G' => E x G') { nx := fun _ G' => Q .non G', rt := Q } (startD N.length ds) G) : XFn P w K mg base (k + 1) f fd ps sp := by
  refine gfn_of F S (fun vs H Q E h => ?_) fun cdv A outer s H vs Q E hr hg h => ⟨_, hbody cdv A outer s H E hr hg (takes_of rfl rfl rfl rfl) (passes_of rfl), ?_⟩
  · obtain ⟨ds, G, q, e, rl, _, h, _⟩ := h
    rw [rl.length]
    exact len _ _ _ _ h
  · obtain ⟨ds, G, q, e, rl, g, h, kq, ke⟩ := h
    refine ⟨startD N.length ds, G, _, _, start_rel rl g, ok ds G q e h, ?_, ?_, ?_, ?_, ?_⟩
    · exact fun σ' ρ' H' G' e' r' h' => kq .non .non H' G' e' r'.gok (by unfold RepV; rfl) h'
    · exact fun v d H' G' e' g' v' h' => kq v d H' G' e' g' v' h'
    · exact fun _ _ _ _ _ _ z => z.elim
    · exact fun _ _ _ _ _ _ z => z.elim
    · exact fun x c od σ' H' ρ' G' e' r' rx hz => ke x c od H' G' e' r'.gok rx hz
end Dl

namespace Dl
open PySem L2 PyProof.Rows

abbrev veInit : String := "ValueError.__init__"
structure ExcS (K : PySem.W.Frag) (file : Str) (C f c cc D : Addr) : Prop where
  ox : OexC K C
  ini : PySem.W.findIn K (.ref C) "__init__" = some (some (.ref f))
  fnT : PySem.W.typeIn K (.ref f) = some (.type "function")
  kD : ∃ cd, PySem.W.clsIn K D = some cd
  cell : ∃ a b sl, K.lookup cc = some ⟨a, b, .cell (some (.ref D)), sl⟩
  code : ∃ a b vs sl t fl, K.lookup c = some ⟨a, b, .fields vs, sl⟩ ∧ vs[2]? = some (.str fl t) ∧ ((file : Str) == fl) = true
  sub : PySem.W.mroIn K C (.ref D) = some true
  next : PySem.W.ks_superIn K C D "__init__" = some (some (.builtin veInit))
  isV : PySem.W.subIn K (.ref C) (.type "ValueError") = some true
  noSuper : PySem.W.nsIn K mainGlobals "super" = some none
  noOpq : PySem.W.nsIn K cStatics "thirdparty.any" = some none

section
variable {prog : Program} {w : World} {A : Around} {E : Value → Shared → Prop}
theorem bw_call {nm q : Str} {C N : Addr} {bs bm : List Value} {hd : Bool} {sn : List Str} {sub : List Value} {ab : Bool} {col : Option Bool} {dd : Option Addr} {k0 k1 k2 k3 k5 : Option Value} {s : Shared} {u x t0 : Addr} {us : List Value} {Q : Value → Shared → Prop}
    (hC : s.heap.get? C = some (excClassObj nm q C N bs bm hd sn sub ab col dd k0 k1 k2 k3 k5 "ValueError.__new__")) (hx : s.heap.get? x = some (PySem.HandSPX.excO C t0)) (hu : s.heap.get? u = some (PySem.W.kxs_mw veInit x)) (hl : us.length ≤ sizeLine)
    (h : ∀ h' t1, (∀ b o, b ≠ x → s.heap.get? b = some o → h'.get? b = some o) → h'.get? x = some (PySem.HandSPX.excO C t1) → Q .none { s with heap := h' }) :
    wpAny (model prog w) A (PySem.call (.ref u) us) Q E s := by
  obtain ⟨hp, g, d, tk, os⟩ := s
  refine wpAny_call (codeAny_of_tree (?_ : wpAny _ A.in1 (callAny (.ref u) ⟨us, []⟩) _ _ _))
  unfold callAny
  refine wpAny_bind (wpAny_load hu ?_)
  dsimp only [PySem.W.kxs_mw]
  refine PySem.W.KFB.if_so (by decide) (wpAny_bind (PySem.W.check_bound_init PySem.F.excBase_ValueError.toExcCallFacts hC hx rfl ?_))
  refine wpAny_bind (wpAny_pure (wpAny_pure ⟨plainId_quiet PySem.F.excBase_ValueError.init.plain _, codeAny_builtin PySem.F.excBase_ValueError.initEntry ?_⟩))
  exact PySem.W.exc_init_tree (t0 := t0) (dv := none) (c2 := .none) (c3 := .none) (b4 := .bool false) hx hl fun h' k e _ => h h' _ k e
end
section
variable {X : Cx} {pins : List (Addr × Obj)} {σ : L2.St} {H : Hp} {s : Shared} {C f c cc D a : Addr} {A : Around} {body : List Stmt} {E : Value → Shared → Prop}
theorem super_ok {fd : FuncData} {oc : Value} {od : Option Addr} {osl : Array (Option Value)} {ar : Arg} {e : Expr} {es : List Expr} {ta : TA} {p0 p1 p2 p3 p4 : Pos} {Q : Flow → Shared → Prop}
    (S : ExcS X.K X.prog.main.file C f c cc D) (hA : A = X.A) (hfu : X.env.func = some f) (lf : X.K.lookup f = some ⟨oc, od, .func fd, osl⟩) (hp : (fd.params.posonlyargs ++ fd.params.args).head? = some ar) (hco : X.env.code = .ref c)
    (hks : X.env.kindOf "super" = some .globalImplicit) (hkc : X.env.kindOf "__class__" = some .free) (hka : X.env.kindOf ar.arg = some .local) (hcl : X.env.cells.lookup ("__class__" : Str) = some cc)
    (htop : (X.prog.main.scope.names.lookup ("super" : Str)).isSome = false) (hN : X.N[0]? = some ar.arg) (h0 : σ[0]? = some (some (.ref a))) (I : Inv X pins σ H s) (ea : H a = some (exo a C none))
    (ha : ∀ pins s, Inv X pins σ H s → wpAny (model X.prog X.w) X.A (spliced (backTo p3 (starEach (e :: es) X.env))) (fun us s' => us.length ≤ sizeLine ∧ Inv X pins σ H s') E s)
    (h : ∀ s', Inv X pins σ H s' → Q .next s')
    (hst : starEach (e :: es) X.env = (false, eval e X.env) :: starEach es X.env := by rfl) (hpl : (backTo p3 (starEach es X.env)).any (·.1) = false := by rfl)
    {pl : Sem Bool} (hev : eval (.Call (.Attribute (.Call (.Name "super" p0) [] [] p1) "__init__" p2) (e :: es) [] p3) X.env = (do
      let ov ← attributeBase (.Call (.Name "super" p0) [] [] p1) "__init__" X.env (eval (.Call (.Name "super" p0) [] [] p1) X.env)
      standAt p2.atName
      let (g, first) ← holding [ov] (getMethod ov "__init__" pl)
      callWith p3 g first (backTo p3 (starEach (e :: es) X.env)) []) := by rfl)
    (hi : interactive X.env = false := by rfl) (hs : swapsWith (.Call (.Attribute (.Call (.Name "super" p0) [] [] p1) "__init__" p2) (e :: es) [] p3) none p4.line X.env = pure false := by rfl) :
    _root_.PySem.wpAt (model X.prog X.w) A (.func body X.env) (exec (.Expr (.Call (.Attribute (.Call (.Name "super" p0) [] [] p1) "__init__" p2) (e :: es) [] p3) p4) X.env) Q E s := by
  subst hA
  obtain ⟨nm, q, N, bs, bm, sn, sub, ab, col, dd, k0, k1, k2, k3, k5, lC, hbm⟩ := S.ox.cls
  have kin := I.kIn
  obtain ⟨t1, hx⟩ := exo_at I.hok ea
  obtain ⟨cdD, hcd⟩ := S.kD
  obtain ⟨oD, hD1, hD2⟩ : ∃ oD, X.K.lookup D = some oD ∧ oD.data = .cls cdD := by
    unfold PySem.W.clsIn at hcd
    split at hcd
    · rename_i z
      cases hcd
      exact ⟨_, z, rfl⟩
    · cases hcd
  obtain ⟨ca, cb, csl, lcell⟩ := S.cell
  obtain ⟨da, db, vs, dsl, tf, fl, lcode, hvs, hfile⟩ := S.code
  have nCa : a ≠ C := fun z => by
    subst z
    have y := kin _ _ lC
    rw [hx] at y
    cases y
  refine PySem.ks_wpAt_Expr_any (PySem.ks_wpAt_MethodCall (pl := pl) ?_ hev) hi hs
  refine PySem.ks_wpAt_super_base hks hkc (by decide) hfu (kin _ _ lf) rfl hp hco (kin _ _ lcode) rfl hvs hfile htop ?_
  obtain ⟨mb, b1, b2⟩ := I.mod.blt
  refine PySem.W.ks_loadName_global I.ok.kind hks (Calls.loadGlobal_builtin (by rw [I.ok.glob]; exact I.mod.glob.keeps I.bk) (PySem.W.mg_none_of I.ok.mod.kin I.mod.glob S.noSuper) (by rw [I.ok.blt]; exact b1.keeps I.bk) ((b2 "super" (by decide)).trans (by first | rfl | kernel_rfl | decide +kernel)) ⟨rfl, ?_⟩)
  refine wpAny_loadName_free I.ok.kind hkc hcl ⟨_, kin _ _ lcell, rfl⟩ ?_
  obtain ⟨m, hm, hl⟩ := id I.loc
  obtain ⟨u0, ru, lk⟩ := hl 0 _ _ hN h0 (.inl hka)
  obtain rfl : u0 = Value.ref a := ru
  have hself : m ar.arg = some (.ref a) := by
    rcases lk with ⟨_, z⟩ | ⟨z, _⟩
    · exact z
    · rw [hka] at z
      rcases z with z | z <;> cases z
  refine wpAny_loadName_local I.ok.kind hka hm hself ?_
  obtain ⟨hh, g, d, t, os⟩ := s
  refine PySem.ks_wpAny_isType_cls (kin _ _ hD1) hD2 ⟨rfl, ?_⟩
  refine PySem.ks_wpAny_call_super (kin _ _ hD1) hD2 hx rfl (fun _ z => by cases z) (PySem.W.looks_mroIn kin S.sub) fun h1 e1 kp1 => ?_
  have I1 : Inv X pins σ H ⟨h1, g, d, t, os⟩ := I.kept (t' := t) kp1
  have kin1 := I1.kIn
  have nx := S.next
  unfold PySem.W.ks_superIn at nx
  cases hcC : PySem.W.clsIn X.K C with
  | none => rw [hcC] at nx; cases nx
  | some cd =>
  rw [hcC] at nx
  have LT : PySem.W.Looks (model X.prog X.w) h1 (typeOf (.ref a)) (.ref C) := fun A Q E s k q => wpAny_typeOf_ref (k _ _ (kp1 _ _ hx)) q
  refine PySem.W.kxs_getMethod PySem.W.kxs_ValueError e1 (PySem.W.looks_opaque kin1 S.noOpq) (l₀ := cd.mro) (fun A Q E s k q => wpAny_bind ((PySem.W.looks_clsIn kin1 hcC) A _ E s k (wpAny_pure q))) rfl kin1 nx (LT.andThen (PySem.W.looks_subIn kin1 S.isV)) nCa (by decide) ?_
  have I2 : Inv X pins σ H ⟨h1.push (PySem.W.kxs_mw veInit a), g, d, t + 1, os⟩ := I1.kept (t' := t + 1) fun b o z => Heap.get?_push_of_some _ z
  have hu : (h1.push (PySem.W.kxs_mw veInit a)).get? h1.objs.size = some (PySem.W.kxs_mw veInit a) := Heap.get?_push_size _ rfl
  have nu : H h1.objs.size = none := I1.hok.fresh (Nat.le_refl _)
  have I3 : Inv X (pins ++ [(h1.objs.size, PySem.W.kxs_mw veInit a)]) σ H ⟨h1.push (PySem.W.kxs_mw veInit a), g, d, t + 1, os⟩ := I2.pins_of fun p hp => by
    rcases List.mem_append.mp hp with z | z
    · exact I2.pin p (List.mem_append_right _ z)
    · obtain rfl : p = _ := by simpa using z
      exact ⟨hu, nu, fun y => absurd I1.lt (by rw [← y]; exact Nat.lt_irrefl _), I1.nofs (Nat.le_refl _), fun _ y => by cases y⟩
  dsimp only
  rw [hst] at ha ⊢
  refine PySem.W.kxs_callWith (i := veInit) (x := a) (by show (false || (backTo p3 (starEach es X.env)).any (·.1)) = false; rw [hpl]; rfl) ?_
  refine Calls.evalArgs_plain ?_
  refine wpAny_mono (ha _ _ I3) (fun us s4 ⟨hz, I4⟩ => ?_) fun _ _ y => y
  have hu4 : s4.heap.get? h1.objs.size = some (PySem.W.kxs_mw veInit a) := (I4.pin (h1.objs.size, PySem.W.kxs_mw veInit a) (List.mem_append_right _ (List.mem_append_right _ (List.mem_singleton.mpr rfl)))).1
  obtain ⟨t4, hx4⟩ := exo_at I4.hok ea
  refine ⟨hu4, bw_call (I4.kIn _ _ lC) hx4 hu4 hz fun h5 t5 k5 e5 => h _ ?_⟩
  have J := (I4.unpinned).write (t' := s4.toks) (x := a) (e := a) (o := exo a C none) (by rw [ea]; exact True.intro) (.inl rfl) k5 ⟨_, e5⟩ (exo_ok e5)
  have eu : upd H a (exo a C none) = H := by
    funext b
    by_cases hb : b = a
    · rw [hb, upd_same, ea]
    · rw [upd_ne hb]
  rw [eu] at J
  exact J
end

def nI (xs : List Str) : List Str := ("self" : Str) :: (xs ++ [("__class__" : Str)])
abbrev nfI (qual : Str) (params : Arguments) (body : List Stmt) (scope : Scope) (cc c : Addr) : NdefX.NF := ⟨"__init__", qual, params, body, scope, [(("__class__" : Str), cc)], c⟩
def spI (C : Addr) (fl : List Str) : Sp := fun vs H Q _ => ∃ (a : Addr) (ws : List V), vs = .ref a :: ws ∧ ws.length = fl.length ∧ H a = some (exo a C none) ∧
  ∀ (dx : Addr) (H' : Hp), H dx = none → dx ≠ a → H' a = some (exo a C (some dx)) → H' dx = some (exd dx (fl.zip ws).reverse) → (∀ b, b ≠ a → b ≠ dx → H' b = H b) → Q .non H'
section
open LamX NdefX
variable {P : Program} {w : World} {K : PySem.W.Frag} {mg : Str → Option Value} {base : Heap} {C f c cc D : Addr} {qual : Str} {params : Arguments} {scope : Scope} {xs fl : List Str} {rest : List Stmt} {dV kV doc pm ct oc : Value} {an od : Option Addr} {osl : Array (Option Value)}
theorem xinit_of {k : Nat} {ar : Arg} {e : Expr} {es : List Expr} {p0 p1 p2 p3 p4 : Pos} {ta : TA} {t : TS} (S : ExcS K P.main.file C f c cc D) {st0 : Stmt} (hst0 : st0 = .Expr (.Call (.Attribute (.Call (.Name "super" p0) [] [] p1) "__init__" p2) (e :: es) [] p3) p4)
    (lf : K.lookup f = some ⟨oc, od, .func (PySem.W.fnX "__init__" qual params (st0 :: rest) scope [(("__class__" : Str), cc)] dV kV doc pm an (.ref c) ct), osl⟩) (hcd : PySem.W.codeIn K (.ref c) qual = true)
    (NS : NScope (nI xs) (("self" : Str) :: xs) ["__class__"] scope) (hp : (params.posonlyargs ++ params.args).head? = some ar) (har : ar.arg = ("self" : Str)) (hks : scope.names.lookup ("super" : Str) = some .globalImplicit)
    (htop : (P.main.scope.names.lookup ("super" : Str)).isSome = false) (hfl : fl.length = xs.length) (hfs : xs.length ≤ 1000)
    (hargs : ∀ (A : Around) (outer : List Env) (s : Shared) (H : Hp) (E : XK), PA (ncx CX0 P w K mg base (nI xs) (nfI qual params (st0 :: rest) scope cc c) f A outer s H E) (e :: es) ta)
    (hta : ∀ (a : Addr) (ws : List V) (H : Hp) (Qa : List V → Hp → Prop), ws.length = xs.length → (∀ us, us.length = xs.length → Qa us H) → ta (startF (nI xs) (.ref a :: ws) [none]) H Qa)
    (hrest : ∀ (A : Around) (outer : List Env) (s : Shared) (H : Hp) (E : XK), PSs (ncx CX0 P w K mg base (nI xs) (nfI qual params (st0 :: rest) scope cc c) f A outer s H E) rest t)
    (ht : ∀ (a : Addr) (ws : List V) (H : Hp) (Q : VK), ws.length = xs.length → H a = some (exo a C none) →
      (∀ (dx : Addr) (H' : Hp), H dx = none → dx ≠ a → H' a = some (exo a C (some dx)) → H' dx = some (exd dx (fl.zip ws).reverse) → (∀ b, b ≠ a → b ≠ dx → H' b = H b) → Q .non H') → t { nx := fun _ H' => Q .non H', rt := Q } (startF (nI xs) (.ref a :: ws) [none]) H)
    (hst : ∀ env, starEach (e :: es) env = (false, eval e env) :: starEach es env := by intro _; rfl) (hpl : ∀ env, (backTo p3 (starEach es env)).any (·.1) = false := by intro _; rfl) {pl : Env → Sem Bool}
    (hev : ∀ env, eval (.Call (.Attribute (.Call (.Name "super" p0) [] [] p1) "__init__" p2) (e :: es) [] p3) env = (do
      let ov ← attributeBase (.Call (.Name "super" p0) [] [] p1) "__init__" env (eval (.Call (.Name "super" p0) [] [] p1) env)
      standAt p2.atName
      let (g, first) ← holding [ov] (getMethod ov "__init__" (pl env))
      callWith p3 g first (backTo p3 (starEach (e :: es) env)) []) := by intro _; rfl)
    (hs : ∀ env, swapsWith (.Call (.Attribute (.Call (.Name "super" p0) [] [] p1) "__init__" p2) (e :: es) [] p3) none p4.line env = pure false := by intro _; rfl) :
    FnOk P w K mg base CX0 (k + 1) f (PySem.W.fnX "__init__" qual params (st0 :: rest) scope [(("__class__" : Str), cc)] dV kV doc pm an (.ref c) ct) (("self" : Str) :: xs) (spI C fl) := by
  subst hst0
  refine ⟨fun vs H Q E h => ?_, fun A outer s H args us vs Q E hr e0 hb r hsp => ?_⟩
  · obtain ⟨a, ws, rfl, hl, _⟩ := h
    simp [hl, hfl]
  obtain ⟨a, ws, rfl, hl, ea, hq⟩ := hsp
  have hl' : ws.length = xs.length := hl.trans hfl
  have kin : K.In s.heap := e0.mod.kin.keeps fun b o z => (e0.bs b o z).1
  have lim : s.heap.NoLimit := e0.mod.nolimit.keeps fun b o z => (e0.bs b o z).1
  refine codeAny_call_function hr.depth (kin _ _ lf) rfl NS.co NS.gen rfl (PySem.W.codeRec_of kin hcd) (hb _ _ _ _ ?_)
  refine wpAny_newFunctionEnv NS.nocell (fun ⟨n, _⟩ hy => NS.par n (List.of_mem_zip hy).1) (fun h₁ hns hsb => ⟨lim.fresh _ hsb, PySem.ks_codeAny_funcAt ?_⟩) NS.kind
  have kp : ∀ b o, s.heap.get? b = some o → h₁.get? b = some o := fun b o z => hsb.extBut b o (Nat.ne_of_lt (Heap.lt_size z)) (Heap.get?_push_of_some _ z)
  obtain ⟨ca, cb, csl, lcell⟩ := S.cell
  have nH : ∀ {b : Addr} {o : Obj}, K.lookup b = some o → H b = none := fun {b o} z => (e0.bs b o (e0.mod.kin b o z)).2
  have CA : CellsAt [(("__class__" : Str), cc)] ["__class__"] [none] s.heap H := by
    refine ⟨rfl, fun y d z => ?_, fun x y d z1 z2 => ?_, fun i y z => ?_⟩
    · have q : (("__class__" : Str), d) = (("__class__" : Str), cc) ∧ y = "__class__" := by
        have m := PySem.mem_of_lookup z
        rw [List.mem_singleton] at m
        cases m
        exact ⟨rfl, rfl⟩
      cases q.1
      exact ⟨nH lcell, _, ⟨_, kin _ _ lcell, rfl⟩⟩
    · have m1 := PySem.mem_of_lookup z1
      have m2 := PySem.mem_of_lookup z2
      rw [List.mem_singleton] at m1 m2
      cases m1
      cases m2
      rfl
    · match i, z with
      | 0, z =>
        cases z
        exact ⟨cc, by simp [List.lookup], fun v y => by cases y⟩
  have I0 : Inv (ncx CX0 P w K mg base (nI xs) (nfI qual params (Stmt.Expr (.Call (.Attribute (.Call (.Name "super" p0) [] [] p1) "__init__" p2) (e :: es) [] p3) p4 :: rest) scope cc c) f A outer s H E) [] (startF (nI xs) (.ref a :: ws) [none]) H { s with heap := h₁, toks := s.toks + ((("self" : Str) :: xs).zip us).length } :=
    inv_startN NS hr.hd e0 (by simp [hl']) r CA hns kp
  refine PySem.ks_wpAt_execs_cons ?_
  have kc : ∀ {x : Str} {nk : NameKind}, scope.names.lookup x = some nk → (envF (nfI qual params (Stmt.Expr (.Call (.Attribute (.Call (.Name "super" p0) [] [] p1) "__init__" p2) (e :: es) [] p3) p4 :: rest) scope cc c) f s.heap.objs.size).kindOf x = some nk := fun z => z
  refine super_ok (X := ncx CX0 P w K mg base (nI xs) (nfI qual params (Stmt.Expr (.Call (.Attribute (.Call (.Name "super" p0) [] [] p1) "__init__" p2) (e :: es) [] p3) p4 :: rest) scope cc c) f A outer s H E) (ar := ar) (ta := ta) (pl := pl _)
    S rfl rfl lf hp rfl (kc hks) (kc (NS.frk _ (by simp))) (by rw [har]; exact kc (NS.par _ (by simp))) (by rfl) htop (by rw [har]; rfl) (a := a) (by rfl) I0 ea ?_ ?_ (hst _) (hpl _) (hev _) I0.quiet (hs _)
  · intro pins s3 I3
    refine wpAny_mono ((hargs A outer s H E).run p3 pins s3 _ H (fun us H1 => us.length = xs.length ∧ H1 = H) I3 (hta a ws H _ hl' fun us hu => ⟨hu, rfl⟩)) (fun us s4 hh => ?_) fun _ _ z => z
    obtain ⟨vs4, H4, I4, r4, h4, e4⟩ := hh
    subst e4
    refine ⟨?_, I4⟩
    rw [← r4.length, h4, sizeLine_eq]
    omega
  · intro s5 I5
    refine wpAt_of_wpAny (wpAny_mono ((hrest A outer s H E).run [] s5 _ H _ I5 (ht a ws H Q hl' ea hq)) (fun fl s6 hs6 => ?_) fun _ _ z => z)
    have fin : ∀ {σ' : L2.St} {H' : Hp} {v : V} {u : Value}, Inv (ncx CX0 P w K mg base (nI xs) (nfI qual params (Stmt.Expr (.Call (.Attribute (.Call (.Name "super" p0) [] [] p1) "__init__" p2) (e :: es) [] p3) p4 :: rest) scope cc c) f A outer s H E) [] σ' H' s6 →
        L2.RelV v u → Q v H' → CE outer P w H s Q u s6 := fun J rv q => ⟨_, _, J.os, J.bare, J.base, J.hok, rv, q⟩
    cases fl with
    | ret u =>
      obtain ⟨v, σ', H', J, rv, q⟩ := hs6
      exact fin J rv q
    | next =>
      obtain ⟨σ', H', J, q⟩ := hs6
      exact fin (v := V.non) (u := Value.none) J rfl q
    | brk =>
      obtain ⟨_, _, _, q⟩ := hs6
      exact q.elim
    | cont =>
      obtain ⟨_, _, _, q⟩ := hs6
      exact q.elim
end
end Dl

namespace Dl
open PySem L2 PyProof.Rows LamX NdefX
section
variable {P : Program} {w : World} {K : PySem.W.Frag} {mg : Str → Option Value} {base : Heap} {C f c cc D : Addr} {qual x1 x2 f1 f2 : Str} {params : Arguments} {scope : Scope} {dV kV doc pm ct oc : Value} {an od : Option Addr} {osl : Array (Option Value)}
  {p0 p1 p2 p3 p4 q1 q2 r1 r2 r3 r4 r5 r6 r7 r8 : Pos} {ar : Arg}
abbrev stSup (p0 p1 p2 p3 p4 : Pos) (es : List Expr) : Stmt := .Expr (.Call (.Attribute (.Call (.Name "super" p0) [] [] p1) "__init__" p2) es [] p3) p4
abbrev stKeep (x f : Str) (r1 r2 r3 r4 : Pos) : Stmt := .Assign [.Attribute (.Name "self" r1) f r2] (.Name x r3) r4
theorem xinit2 (S : ExcS K P.main.file C f c cc D)
    (lf : K.lookup f = some ⟨oc, od, .func (PySem.W.fnX "__init__" qual params [stSup p0 p1 p2 p3 p4 [.Name x1 q1, .Name x2 q2], stKeep x1 f1 r1 r2 r3 r4, stKeep x2 f2 r5 r6 r7 r8] scope [(("__class__" : Str), cc)] dV kV doc pm an (.ref c) ct), osl⟩)
    (hcd : PySem.W.codeIn K (.ref c) qual = true) (NS : NScope (nI [x1, x2]) [("self" : Str), x1, x2] ["__class__"] scope) (hp : (params.posonlyargs ++ params.args).head? = some ar) (har : ar.arg = ("self" : Str)) (hks : scope.names.lookup ("super" : Str) = some .globalImplicit)
    (htop : (P.main.scope.names.lookup ("super" : Str)).isSome = false) (n1 : PySem.W.findIn K (.ref C) f1 = some none) (n2 : PySem.W.findIn K (.ref C) f2 = some none)
    (d1 : (x1 == ("__debug__" : Str)) = false) (d2 : (x2 == ("__debug__" : Str)) = false) (e1 : (x1 == ("__classdict__" : Str)) = false) (e2 : (x2 == ("__classdict__" : Str)) = false)
    {pl : Env → Sem Bool} (hev : ∀ env, eval (.Call (.Attribute (.Call (.Name "super" p0) [] [] p1) "__init__" p2) [.Name x1 q1, .Name x2 q2] [] p3) env = (do
      let ov ← attributeBase (.Call (.Name "super" p0) [] [] p1) "__init__" env (eval (.Call (.Name "super" p0) [] [] p1) env)
      standAt p2.atName
      let (g, first) ← holding [ov] (getMethod ov "__init__" (pl env))
      callWith p3 g first (backTo p3 (starEach [.Name x1 q1, .Name x2 q2] env)) []))
    (hsw : ∀ env, swapsWith (.Call (.Attribute (.Call (.Name "super" p0) [] [] p1) "__init__" p2) [.Name x1 q1, .Name x2 q2] [] p3) none p4.line env = pure false) :
    FnOk P w K mg base CX0 1 f (PySem.W.fnX "__init__" qual params [stSup p0 p1 p2 p3 p4 [.Name x1 q1, .Name x2 q2], stKeep x1 f1 r1 r2 r3 r4, stKeep x2 f2 r5 r6 r7 r8] scope [(("__class__" : Str), cc)] dV kV doc pm an (.ref c) ct) [("self" : Str), x1, x2] (spI C [f1, f2]) := by
  have vs : Vis scope ("self" : Str) := .inl (NS.par _ (by simp))
  have v1 : Vis scope x1 := .inl (NS.par _ (by simp))
  have v2 : Vis scope x2 := .inl (NS.par _ (by simp))
  refine xinit_of (k := 0) (xs := [x1, x2]) (fl := [f1, f2]) (ta := tCons (tVar 1) (tCons (tVar 2) tNil)) (t := tSeq (tOst K f1 (tVar 0) (tVar 1)) (tOst K f2 (tVar 0) (tVar 2))) S rfl lf hcd NS hp har hks htop rfl (by simp) ?_ ?_ ?_ ?_ (hev := hev) (hs := hsw)
  · intro A outer s H E
    exact pa_cons (pe_var (i := 1) rfl v1 d1 e1) (pa_cons (pe_var (i := 2) rfl v2 d2 e2) pa_nil)
  · rintro a ws H Qa hw h
    match ws, hw with
    | [u, v], _ => exact ⟨u, rfl, v, rfl, h _ rfl⟩
  · intro A outer s H E
    exact pss_cons (ps_ost (pe_var (i := 0) rfl vs) (pe_var (i := 1) rfl v1 d1 e1)) (pss_one (ps_ost (pe_var (i := 0) rfl vs) (pe_var (i := 2) rfl v2 d2 e2)))
  · rintro a ws H Q hw ea hq
    match ws, hw with
    | [u, v], _ =>
      refine ⟨u, rfl, .ref a, rfl, a, C, rfl, S.ox, n1, .inl ⟨ea, fun dx hd ne => ?_⟩⟩
      refine ⟨v, rfl, .ref a, rfl, a, C, rfl, S.ox, n2, .inr ⟨dx, _, upd_same, by rw [upd_ne ne, upd_same], by show 1 ≤ 900; decide, ?_⟩⟩
      refine hq dx _ hd ne (by rw [upd_ne (Ne.symm ne), upd_same]) upd_same fun b h1 h2 => ?_
      rw [upd_ne h2, upd_ne h1, upd_ne h2]
end

structure XClass (P : Program) (w : World) (K : PySem.W.Frag) (mg : Str → Option Value) (x : Str) (fl : List Str) : Prop where
  ox : OexC K (He.ga K x)
  few : fl.length ≤ 100
  at_ : mg x = some (.ref (He.ga K x))
  made : ∀ base : Heap, ∃ f fd ps, PySem.W.findIn K (.ref (He.ga K x)) "__init__" = some (some (.ref f)) ∧ PySem.W.typeIn K (.ref f) = some (.type "function") ∧ FnOk P w K mg base CX0 1 f fd ps (spI (He.ga K x) fl) ∧ Binds K fd ps []
@[simp] def xRaise (x : Str) (fl : List Str) (ta : XTA) : XTS := fun Z _ ρ G => ta Z ρ G fun ds G1 => ds.length = fl.length ∧ Z ⟨x, (fl.zip ds).reverse⟩ ρ G1
theorem zip_rep {K : PySem.W.Frag} {G : GH} {H : Hp} : ∀ {fl : List Str} {ds : List D} {vs : List V}, RepL K G H ds vs → (fl.zip vs).map (·.1) = (fl.zip ds).map (·.1) ∧ RepL K G H ((fl.zip ds).map (·.2)) ((fl.zip vs).map (·.2))
  | [], ds, vs, _ => by simp [repL_nil]
  | _ :: _, [], vs, h => by unfold RepL at h; subst h; simp [repL_nil]
  | y :: fl, d :: ds, vs, h => by
    unfold RepL at h
    obtain ⟨v, r, rfl, h1, h2⟩ := h
    obtain ⟨e1, e2⟩ := zip_rep (fl := fl) h2
    simp only [List.zip_cons_cons, List.map_cons]
    exact ⟨by rw [e1], repL_cons h1 e2⟩
section
variable {X : Cx} {W : WX} {x : Str} {fl : List Str} {e : Expr} {es : List Expr} {ta : XTA} {p pos pos' : Pos}
theorem xs_raise (C : XClass X.prog X.w X.K X.mg x fl) (hc : X.calm = true) (tk : Takes X W) (hr : Room 2 X.A) (hg : Gl X x) (ha : XA1 X W (e :: es) ta) (hdb : (x == ("__debug__" : Str)) = false := by decide)
    (he : starEach (e :: es) X.env = (false, eval e X.env) :: starEach es X.env := by rfl) (hpl : (backTo pos (starEach es X.env)).any (·.1) = false := by rfl) :
    XS1 X W (.Raise (some (.Call (.Name x p) (e :: es) [] pos)) none pos') (xRaise x fl ta) := by
  obtain ⟨f, fd, ps, h1, h2, F, hb⟩ := C.made X.base
  refine PS.imp (ps_raise hc tk (pmk_oex C.ox h1 h2 F hr hb .nil pass0 hg C.at_ ha hdb he hpl)) fun D σ H ⟨ρ, G, E, Z, r, h, _, _, _, _, z⟩ => ?_
  refine ⟨ρ, G, _, Z, r, h, fun vs ds H1 G1 e1 r1 v1 hh => ?_, z⟩
  obtain ⟨hl, hz⟩ := hh
  have lv := v1.length
  have few := C.few
  refine ⟨by omega, fun a na => ?_⟩
  refine ⟨a, vs, by rw [List.append_nil], by omega, upd_same, fun dx H' hd ne i1 i2 i3 => ?_⟩
  have hd1 : H1 dx = none := by rw [upd_ne ne] at hd; exact hd
  refine ⟨rfl, dx, _, i1, i2, hd1, ?_⟩
  have eH : upd (del H' a) dx (.xd (fl.zip vs).reverse) = upd H1 dx (.xd (fl.zip vs).reverse) := by
    funext b
    by_cases q : b = dx
    · rw [q, upd_same, upd_same]
    · rw [upd_ne q, upd_ne q]
      by_cases q2 : b = a
      · rw [q2, del_same, na]
      · rw [del_ne q2, i3 b q2 q, upd_ne q2]
  rw [eH]
  have ex : Ext G1 H1 G1 (upd H1 dx (.xd (fl.zip vs).reverse)) := Ext.new hd1
  obtain ⟨n1, n2⟩ := zip_rep (fl := fl) (v1.ext ex)
  refine z.ext e1 ⟨x, (fl.zip ds).reverse⟩ _ _ σ _ ρ G1 ex (r1.ext ex (r1.gok.new hd1)) ⟨rfl, dx, _, rfl, r1.gok.fresh hd1, upd_same, ?_, ?_⟩ hz
  · rw [List.map_reverse, List.map_reverse, n1]
  · rw [List.map_reverse, List.map_reverse]
    exact n2.reverse
end
end Dl

namespace Dl
open PySem L2 PyProof.Rows LamX

def lamP (q : Str) (params : Arguments) (body : Expr) (scope : Scope) (cl : List (Str × Addr)) : Addr → Addr → Heap → Prop := fun a c h =>
  ∃ (pm ctv : Value), h.get? a = some (PySem.W.kla_obj "<lambda>" q params body scope cl pm c ctv)
theorem DOk.same {K : PySem.W.Frag} {G : GH} {H H1 : Hp} {a : Addr} {u : DO} (x : DOk K G H a u) (ex : Ext G H G H1) (e : H1 a = H a) : DOk K G H1 a u := by
  cases u with
  | lst ds => obtain ⟨xs, e1, r⟩ := x; exact ⟨xs, e.trans e1, r.ext ex⟩
  | dct kvs => obtain ⟨xs, e1, e2, r⟩ := x; exact ⟨xs, e.trans e1, e2, r.ext ex⟩
  | dtp kvs => obtain ⟨xs, e1, e2, r⟩ := x; exact ⟨xs, e.trans e1, e2, r.ext ex⟩
  | raw w => exact e.trans x
  | ins c fs => obtain ⟨dx, xs, e1, e2, r⟩ := x; exact ⟨dx, xs, e.trans e1, e2, r.ext ex⟩
  | tab q => exact TabD.ext ex x e
  | slt c vs => exact SltD.ext ex x e

section
variable {X : Cx} {pins : List (Addr × Obj)} {σ : L2.St} {H : Hp} {s : Shared}
theorem lam_new {c P : Addr} {ps : Array Value} {params : Arguments} {body : Expr} {scope : Scope} {pos : Pos} {E Q : Value → Shared → Prop} (I : Inv X pins σ H s) (TB : TabB X.base X.mg c P) (hcode : X.env.code = .ref c)
    (hP : H P = some (.tbl ps)) (ht : TriplesOk ps.toList) (hall : ∀ (pos : Pos) (cv : Value), codeAmong pos ps.toList = some cv → ∃ c2, cv = .ref c2 ∧ H c2 = some (CodeO c2 (X.env.qual ++ "<lambda>")))
    (hdef : defaultsOf params X.env = ([], [])) (hfree : ∀ y ∈ scope.names, y.2 = .free → ∃ c, X.env.cells.lookup y.1 = some c)
    (h : ∀ (f c' : Addr) (H1 : Hp) (s' : Shared) (ps' : Array Value), Inv X pins σ H1 s' → H f = none → (∀ b o, H b = some o → b ≠ P → H1 b = some o) → H1 P = some (.tbl ps') → TriplesOk ps'.toList →
      (∀ (pos : Pos) (cv : Value), codeAmong pos ps'.toList = some cv → (cv = .ref c' ∧ H c' = none) ∨ codeAmong pos ps.toList = some cv) → H1 f = some (.ext (lamP (X.env.qual ++ "<lambda>") params body scope (cloFrom X.env.cells scope.names []) f c')) →
      H1 c' = some (CodeO c' (X.env.qual ++ "<lambda>")) → (H c' = none ∨ ∃ pos, codeAmong pos ps.toList = some (.ref c')) → Q (.ref f) s') :
    wpAny (model X.prog X.w) X.A (eval (.Lambda params body scope pos) X.env) Q E s := by
  refine PySem.W.kla_eval hdef ?_
  have bP : s.heap.BuiltinsAt X.mg P := TB.bm.keeps I.bk
  have hP' : s.heap.get? P = some { cls := .none, data := .fields ps } := I.hok P _ hP
  -- the new object tracked
  have lay : ∀ {H2 : Hp} {h' : Heap} {t' : Nat} {c' : Addr} {pm ctv : Value}, Inv X pins σ H2 { s with heap := h', toks := t' } →
      Inv X pins σ (upd H2 h'.objs.size (.ext (lamP (X.env.qual ++ "<lambda>") params body scope (cloFrom X.env.cells scope.names []) h'.objs.size c')))
        { s with heap := h'.push (PySem.W.kla_obj "<lambda>" (X.env.qual ++ "<lambda>") params body scope (cloFrom X.env.cells scope.names []) pm c' ctv), toks := t' } := by
    intro H2 h' t' c' pm ctv J
    have hn : (h'.push (PySem.W.kla_obj "<lambda>" (X.env.qual ++ "<lambda>") params body scope (cloFrom X.env.cells scope.names []) pm c' ctv)).get? h'.objs.size = some (PySem.W.kla_obj "<lambda>" (X.env.qual ++ "<lambda>") params body scope (cloFrom X.env.cells scope.names []) pm c' ctv) := Heap.get?_push_size _ rfl
    exact J.laid (t' := t') (fun b o e => Heap.get?_push_of_some _ e) (Nat.le_refl _) ⟨⟨pm, ctv, hn⟩, ⟨_, hn⟩, fun h1 h2 ⟨p1, p2, e1⟩ st => ⟨p1, p2, st _ e1⟩⟩
  cases hc : codeAmong pos ps.toList with
  | none =>
    refine PySem.W.kla_makeFunction (mg := X.mg) (c := c) (P := P) (ps := ps) (closure_ok hfree) I.ok.glob (I.mod.glob.keeps I.bk) hcode (TB.code.keeps I.bk) hP' ht hc TB.gP bP fun c' ctv h' tk hx hge hlt hrec htb => ?_
    obtain ⟨c2, oc, vs, t, e2, hoc, hd, hv⟩ := hrec
    cases e2
    have nC : H c' = none := I.hok.fresh hge
    have I1 := inv_table (t' := tk) (more := #[rawInt pos.line, rawInt pos.col, .ref c']) I hP (fun b o hb e => hx b o hb e) htb hge ⟨oc, vs, t, hoc, hd, hv⟩
    have I2 := lay (pm := (X.mg "__name__").getD .none) (ctv := ctv) (c' := c') I1
    have nF2 := I1.hok.fresh (Nat.le_refl h'.objs.size)
    have nF : H h'.objs.size = none := I.hok.fresh (Nat.le_trans hge (Nat.le_of_lt hlt))
    have nPc : P ≠ c' := ne_of_none hP nC
    have nfP : P ≠ h'.objs.size := ne_of_none hP nF
    have nfc : c' ≠ h'.objs.size := Nat.ne_of_lt hlt
    have eL : (ps ++ #[rawInt pos.line, rawInt pos.col, .ref c']).toList = ps.toList ++ [rawInt pos.line, rawInt pos.col, .ref c'] := by simp
    refine h _ c' _ _ (ps ++ #[rawInt pos.line, rawInt pos.col, .ref c']) I2 nF (fun b o e n => ?_) ?_ ?_ (fun p2 cv hcv => ?_) upd_same ?_ (.inl nC)
    · rw [upd_ne (ne_of_none e nF), upd_ne (ne_of_none e nC), upd_ne n]; exact e
    · rw [upd_ne nfP, upd_ne nPc, upd_same]
    · rw [eL]; exact PySem.TriplesOk_snoc _ _ _ _ ht
    · rw [eL] at hcv
      rcases among_app _ ht hcv with z | z
      · exact .inr z
      · exact .inl ⟨z, nC⟩
    · rw [upd_ne nfc, upd_same]
  | some cv =>
    obtain ⟨c', e, hco⟩ := hall pos cv hc
    subst e
    refine PySem.W.kla_makeFunctionHit (mg := X.mg) (c := c) (P := P) (ps := ps) (closure_ok hfree) I.ok.glob (I.mod.glob.keeps I.bk) hcode (TB.code.keeps I.bk) hP' ht hc bP fun ctv h' tk hx hsz => ?_
    have I1 : Inv X pins σ H { s with heap := h', toks := tk } := I.kept (t' := tk) hx
    have I2 := lay (pm := (X.mg "__name__").getD .none) (ctv := ctv) (c' := c') I1
    have nF : H h'.objs.size = none := I.hok.fresh hsz
    refine h _ c' _ _ ps I2 nF (fun b o e _ => ?_) ?_ ht (fun p2 cv hcv => .inr hcv) upd_same ?_ (.inr ⟨pos, hc⟩)
    · rw [upd_ne (ne_of_none e nF)]; exact e
    · rw [upd_ne (ne_of_none hP nF)]; exact hP
    · rw [upd_ne (ne_of_none hco nF)]; exact hco
end
def dLam (P : Addr) (q : Str) (φ : Addr → Addr → Heap → Prop) : DTE := fun _ G Q => G P = some (.tab q) ∧ Q (.fn q φ (fun _ => False) (fun _ => none)) G
section
variable {X : Cx}
theorem de_lam {c P : Addr} {params : Arguments} {body : Expr} {scope : Scope} {pos : Pos} (TB : TabB X.base X.mg c P) (hcode : X.env.code = .ref c) (hdef : defaultsOf params X.env = ([], []))
    (hfree : ∀ y ∈ scope.names, y.2 = .free → X.env.scope.names.lookup y.1 = some .cell ∨ X.env.scope.names.lookup y.1 = some .free) :
    DE X (.Lambda params body scope pos) (dLam P (X.env.qual ++ "<lambda>") (lamP (X.env.qual ++ "<lambda>") params body scope (cloFrom X.env.cells scope.names []))) := by
  refine ⟨fun pins s σ H Q I ⟨ρ, G, q, r, ⟨gP, h⟩, k⟩ => ?_⟩
  obtain ⟨ps, hP, ht, hall⟩ := r.gok P _ gP
  have has : ∀ y ∈ scope.names, y.2 = .free → ∃ c, X.env.cells.lookup y.1 = some c := fun y hy e => by
    rcases hfree y hy e with z | z
    · exact I.ok.has _ (.inl z)
    · exact I.ok.has _ (.inr z)
  refine lam_new I TB hcode hP ht (fun p cv z => ?_) hdef has fun f c' H1 s' ps' J nF k1 k2 k3 k4 k5 k6 k7 => ?_
  · obtain ⟨c2, e1, _, e2⟩ := hall p cv z
    exact ⟨c2, e1, e2⟩
  have ex : Ext G H G H1 := fun b o e => by
    by_cases n : b = P
    · subst n
      exact ⟨⟨_, k2⟩, fun g => by rw [gP] at g; cases g⟩
    · exact ⟨⟨o, k1 b o e n⟩, fun g => ⟨g, k1 b o e n⟩⟩
  have fr : ∀ {b : Addr}, H b = none → G b = none := fun z => r.gok.fresh z
  have gc : G c' = none := by
    rcases k7 with z | ⟨p, z⟩
    · exact fr z
    · obtain ⟨c2, e1, g, _⟩ := hall p _ z
      cases e1
      exact g
  have gk : GOk X.K G H1 := fun a u e => by
    by_cases n : a = P
    · subst n
      rw [gP] at e
      cases e
      refine ⟨ps', k2, k3, fun p cv z => ?_⟩
      rcases k4 p cv z with ⟨rfl, y⟩ | y
      · exact ⟨c', rfl, fr y, k6⟩
      · obtain ⟨c2, e1, g, e2⟩ := hall p cv y
        refine ⟨c2, e1, g, k1 _ _ e2 fun z => ?_⟩
        subst z
        rw [gP] at g
        cases g
    · obtain ⟨w, ew⟩ := (r.gok a u e).there
      exact (r.gok a u e).same ex ((k1 a w ew n).trans ew.symm)
  refine ⟨.ref f, H1, J, rfl, k _ _ _ _ ex (r.ext ex gk) ?_ h⟩
  unfold RepV
  exact ⟨f, c', rfl, fr nF, k5, gc, k6, fun b o z => by cases z⟩
end
end Dl

namespace Dl
open PySem L2 PyProof.Rows LamX

structure Act where
  q : Str
  φ : Addr → Addr → Heap → Prop
  n0 : Addr → Prop
  H0 : Hp
  tl : DXK → GH → DK → Prop
abbrev Act.d (α : Act) : D := .fn α.q α.φ α.n0 α.H0
@[simp] def xAct (i : Nat) (α : Act) : XTE := fun Z ρ G Q => sl ρ i = some α.d ∧ α.tl (fun x G' => Z x ρ G') G Q
section
variable {X : Cx} {pins : List (Addr × Obj)} {σ : L2.St} {H : Hp} {s : Shared} {ρX : DSt} {GX : GH}
theorem act_of {Ng : List Str} {qg : Str} {sg : Scope} {g : Addr} {cdg : Value} {params : Arguments} {body : Expr} {scope : Scope} {k i : Nat} {a : Str} {pn : List (Addr × Obj)} {xe : Value → Shared → Prop} {W : WX} {t : XTE} {p1 p2 : Pos} {Eg : XK}
    (I : Inv X pins σ H s) (rX : DRel X.K σ H ρX GX) (L : LamS X.env.scope scope) (hbind : ∀ (cl : List (Str × Addr)) (pm cv ctv : Value), bindArgs (PySem.W.kla_fn "<lambda>" (X.env.qual ++ "<lambda>") params body scope cl pm cv ctv) ⟨[], []⟩ = pure [])
    (hr : Room (k + 1) (X.A.deeper (envOfC qg sg s.heap.objs.size g cdg))) (hgd : X.A.guards = some [])
    (tk : Takes ((cxOf CX0 X.prog X.w X.K X.mg X.base Ng qg sg g cdg X.A X.stack s H Eg).tr pn xe) W)
    (hbody : ∀ (A : Around) (outer : List Env) (s : Shared) (H : Hp) (E : XK) (f c' : Addr), Room k (A.deeper (lamEnv X scope s.heap.objs.size f c')) → (A.deeper (lamEnv X scope s.heap.objs.size f c')).guards = some [] →
      Takes (lamCx X A outer s H E scope f c') (fun c d _ H' => E c d H') → XE1 (lamCx X A outer s H E scope f c') (fun c d _ H' => E c d H') body t)
    (hN : Ng[i]? = some a) (hv : Vis sg a) (hd : (a == ("__debug__" : Str)) = false := by decide) (hcd : (a == ("__classdict__" : Str)) = false := by decide) :
    XE1 ((cxOf CX0 X.prog X.w X.K X.mg X.base Ng qg sg g cdg X.A X.stack s H Eg).tr pn xe) W (.Call (.Name a p1) [] [] p2)
      (xAct i ⟨X.env.qual ++ "<lambda>", lamP (X.env.qual ++ "<lambda>") params body scope (cloFrom X.env.cells scope.names []), fun b => GX b = none, H, fun E' G Q => t (fun x _ G' => E' x G') ρX G Q⟩) := by
  refine ⟨fun pinsZ sZ σZ HZ QZ IZ hh => ?_⟩
  obtain ⟨ρ, G, Q, Z, r, ⟨hs, ht⟩, kq, kz⟩ := hh
  obtain ⟨v, hsv, rv⟩ := r.sl hs
  unfold RepV at rv
  obtain ⟨f, c', rfl, gf, hf, gc, hc, keep⟩ := rv
  refine wpAny_Call_Name_kw (thn ((pe_var (pos := p1) (i := i) hN hv hd hcd).run pinsZ sZ σZ HZ (fun v H1 => v = .ref f ∧ H1 = HZ) IZ ⟨.ref f, hsv, rfl, rfl⟩) fun u s1 ⟨w, H1, I1, r1, e1, e2⟩ => ?_)
  subst e1
  rw [e2] at I1
  obtain rfl : u = Value.ref f := r1
  obtain ⟨⟨pm, ctv, of1⟩, _, _⟩ := I1.hok f _ hf
  have ofc : s1.heap.CodeRec (.ref c') (X.env.qual ++ "<lambda>") := by
    obtain ⟨⟨oc, vs, tt, z1, z2, z3⟩, _, _⟩ := I1.hok c' _ hc
    exact ⟨c', oc, vs, tt, rfl, z1, z2, z3⟩
  have ex : Ext GX H G HZ := fun b o z => keep b o z
  have rX' : DRel X.K σ HZ ρX G := rX.ext ex r.gok
  have un : Un (frs X.stack) [] H HZ s.heap s1.heap := I1.base
  refine PySem.W.callWith_F0 ⟨_, _, _, _, of1⟩ ?_
  have rc : codeAny (model X.prog X.w) (X.A.deeper (envOfC qg sg s.heap.objs.size g cdg)) (.call (.ref f) ⟨[], []⟩) (CR (L2.CX X.prog X.w) (envOfC qg sg s.heap.objs.size g cdg :: X.stack) X.prog X.w HZ s1 QZ (fun c d H' => W c d σZ H')) s1 := by
    refine PySem.W.kla_callFunE hr.depth of1 rfl L.co L.gen rfl ofc ?_
    rw [hbind]
    refine wpAny_pure (wpAny_newFunctionEnv (fun y hy => (L.own y hy).2) (fun y hy => absurd hy (by simp)) (fun h₁ hns hsb => ⟨I1.nolimit.fresh _ hsb, ?_⟩) L.kind)
    show codeAny _ _ (.expr body (lamEnv X scope s1.heap.objs.size f c')) _ _
    have kp : ∀ b o, s1.heap.get? b = some o → h₁.get? b = some o := fun b o z => hsb.extBut b o (Nat.ne_of_lt (Heap.lt_size z)) (Heap.get?_push_of_some _ z)
    have J : Inv (lamCx X (X.A.deeper (envOfC qg sg s.heap.objs.size g cdg)) (envOfC qg sg s.heap.objs.size g cdg :: X.stack) s1 HZ (fun c d H' => W c d σZ H') scope f c') [] σ HZ { s1 with heap := h₁, toks := s1.toks + ([] : List (Str × Value)).length } :=
      lam_start2 I L I1.env0 hr.hd un hns kp
    have gdd : ((X.A.deeper (envOfC qg sg s.heap.objs.size g cdg)).deeper (lamEnv X scope s1.heap.objs.size f c')).guards = some [] := hgd
    have hb := hbody _ (envOfC qg sg s.heap.objs.size g cdg :: X.stack) s1 HZ (fun c d H' => W c d σZ H') f c' (hr.deeper _) gdd (takes_of rfl rfl rfl rfl)
    refine PySem.W.kla_codeExpr (wpAny_mono (hb.run [] _ _ HZ QZ J ⟨ρX, G, Q, _, rX', ht, fun v d H' G' e2 r2 v2 h2 => ?_, fun x c od σ' H' ρ' G' e2 r2 rx hz => ?_⟩) (fun v s' hq => ?_) fun e s' hq => hq)
    · exact kq v d H' G' e2 (r.ext e2 r2.gok) v2 h2
    · exact kz x c od σZ H' ρ G' e2 (r.ext e2 r2.gok) rx hz
    · obtain ⟨w', H', J', rv, q⟩ := hq
      exact ⟨w', H', J'.os, J'.bare, J'.base, J'.hok, rv, q⟩
  refine wpAny_call (codeAny_mono rc fun r2 s' hq => ?_)
  cases r2 with
  | error e => exact passAt tk σZ pinsZ HZ s1 e s' I1 hq
  | ok fl =>
    cases fl with
    | ret u => exact I1.after hq
    | next => exact False.elim hq
    | brk => exact False.elim hq
    | cont => exact False.elim hq
end

structure Hearer (P : Program) (w : World) (K : PySem.W.Frag) (mg : Str → Option Value) (base : Heap) (k : Nat) (x : Str) (rH : Act → DTS) (n : Nat) : Prop where
  ex : ∃ (g : Addr) (pg : Arguments) (bg : List Stmt) (sg : Scope) (Ng : List Str) (a : Str) (dV kV doc pm cdv ct oc : Value) (an od : Option Addr) (osl : Array (Option Value)),
    mg x = some (.ref g) ∧ PySem.W.keepIn K (.ref g) = true ∧ K.lookup g = some ⟨oc, od, .func (PySem.W.fnOf x x pg bg sg dV kV doc pm an cdv ct), osl⟩ ∧ PySem.W.codeIn K cdv x = true ∧ L2.Binds K (PySem.W.fnOf x x pg bg sg dV kV doc pm an cdv ct) [a] [] ∧
    FnScope Ng [a] sg ∧ Ng.length = n ∧ Ng[0]? = some a ∧ Vis sg a ∧ (a == ("__debug__" : Str)) = false ∧ (a == ("__classdict__" : Str)) = false ∧
    ∀ (A : Around) (out : List Env) (st : Shared) (H : Hp) (α : Act), Room (k + 1) (A.deeper (envOfC x sg st.heap.objs.size g cdv)) → (A.deeper (envOfC x sg st.heap.objs.size g cdv)).guards = some [] →
      (∀ (W : WX) (pn : List (Addr × Obj)) (xe : Value → Shared → Prop) (p1 p2 : Pos), Takes ((cxOf CX0 P w K mg base Ng x sg g cdv A out st H E0).tr pn xe) W →
        XE1 ((cxOf CX0 P w K mg base Ng x sg g cdv A out st H E0).tr pn xe) W (.Call (.Name a p1) [] [] p2) (xAct 0 α)) →
      DSs (cxOf CX0 P w K mg base Ng x sg g cdv A out st H E0).nox bg (rH α)
structure LamI where
  q : Str
  φ : Addr → Addr → Heap → Prop
  t : XTE
def dHear (rH : Act → DTS) (n : Nat) (Ls : List LamI) (te : DTE) : DTE := fun ρ G Q => te ρ G fun d G1 => ∃ l ∈ Ls, ∃ n0 H0, d = .fn l.q l.φ n0 H0 ∧
  ∀ n1 H1, rH ⟨l.q, l.φ, n1, H1, fun E' G' Q' => l.t (fun x _ G2 => E' x G2) ρ G' Q'⟩ { nx := fun _ G' => Q .non G', rt := Q } (some (.fn l.q l.φ n1 H1) :: List.replicate (n - 1) none) G1
def LamOf (X : Cx) (k : Nat) (l : LamI) : Prop := ∃ (params : Arguments) (body : Expr) (scope : Scope),
  l.q = X.env.qual ++ "<lambda>" ∧ l.φ = lamP (X.env.qual ++ "<lambda>") params body scope (cloFrom X.env.cells scope.names []) ∧ LamS X.env.scope scope ∧
  (∀ (cl : List (Str × Addr)) (pm cv ctv : Value), bindArgs (PySem.W.kla_fn "<lambda>" (X.env.qual ++ "<lambda>") params body scope cl pm cv ctv) ⟨[], []⟩ = pure []) ∧
  ∀ (A : Around) (outer : List Env) (s : Shared) (H : Hp) (E : XK) (f c' : Addr), Room k (A.deeper (lamEnv X scope s.heap.objs.size f c')) → (A.deeper (lamEnv X scope s.heap.objs.size f c')).guards = some [] →
    Takes (lamCx X A outer s H E scope f c') (fun c d _ H' => E c d H') → XE1 (lamCx X A outer s H E scope f c') (fun c d _ H' => E c d H') body l.t
section
variable {X : Cx} {k n : Nat} {x : Str} {rH : Act → DTS} {Ls : List LamI} {e : Expr} {te : DTE} {p pos : Pos}
theorem de_hear (C : Hearer X.prog X.w X.K X.mg X.base k x rH n) (hL : ∀ l ∈ Ls, LamOf X k l) (hr : Room (k + 2) X.A) (hgd : X.A.guards = some []) (hg : Gl X x) (he : DE X e te) (hdb : (x == ("__debug__" : Str)) = false := by decide)
    (hst : starEach [e] X.env = (false, eval e X.env) :: starEach [] X.env := by rfl) (hpl : (backTo pos (starEach [] X.env)).any (·.1) = false := by rfl) : DE X (.Call (.Name x p) [e] [] pos) (dHear rH n Ls te) := by
  obtain ⟨g, pg, bg, sg, Ng, a, dV, kV, doc, pm, cdv, ct, oc, an, od, osl, hm, hk, lk, hcg, hb, Sg, hn, hNg, hva, hd1, hd2, hG⟩ := C.ex
  refine ⟨fun pins s σ H Qv I hh => ?_⟩
  obtain ⟨ρ, G, Q, r, h, kq⟩ := hh
  refine wpAny_Call_Name_kw (ld_glob I hg hm ?_ hdb)
  have ha : DA X [e] (dCons te dNil) := da_cons he da_nil hst
  refine PySem.W.callWith_K (h₀ := X.base) I.ok.mod.kin hk ?_ hst hpl
  let PP : D → GH → Prop := fun d G1 => ∃ l ∈ Ls, ∃ n0 H0, d = .fn l.q l.φ n0 H0 ∧
    ∀ n1 H1, rH ⟨l.q, l.φ, n1, H1, fun E' G' Q' => l.t (fun x _ G2 => E' x G2) ρ G' Q'⟩ { nx := fun _ G' => Q .non G', rt := Q } (some (.fn l.q l.φ n1 H1) :: List.replicate (n - 1) none) G1
  refine thn (ha.run pos pins s σ H (fun vs H1 => ∃ ds G1, Ext G H G1 H1 ∧ DRel X.K σ H1 ρ G1 ∧ RepL X.K G1 H1 ds vs ∧ match ds with | [d] => PP d G1 | _ => False) I
    ⟨ρ, G, fun ds G1 => match ds with | [d] => PP d G1 | _ => False, r, h, fun vs ds H1 G1 e1 r1 v1 h1 => ⟨ds, G1, e1, r1, v1, h1⟩⟩) ?_
  rintro us s1 ⟨xs, H1, I1, rv, ds, G1, e1, r1, v1, h1⟩
  match ds, h1 with
  | [d], h1 =>
    obtain ⟨l, hl, n0, H0, rfl, hrun⟩ := h1
    obtain ⟨params, body, scope, lq, lφ, LS, hbind, hbody⟩ := hL l hl
    unfold RepL at v1
    obtain ⟨v, ys, rfl, v1, v2⟩ := v1
    unfold RepL at v2
    subst v2
    unfold RepV at v1
    obtain ⟨f, c', rfl, gf, hf, gc, hc, _⟩ := v1
    cases rv with
    | @cons _ u _ ur ru rr =>
    cases rr
    obtain rfl : u = Value.ref f := ru
    refine ⟨I1.kIn, ?_⟩
    have rep : RepV X.K G1 H1 (.fn l.q l.φ (fun b => G1 b = none) H1) (.ref f) := by
      unfold RepV
      exact ⟨f, c', rfl, gf, hf, gc, hc, fun b o z => ⟨⟨o, z⟩, fun y => ⟨y, z⟩⟩⟩
    have hne : 0 < Ng.length := by
      rcases Nat.eq_zero_or_pos Ng.length with z | z
      · rw [List.length_eq_zero_iff.mp z] at hNg; cases hNg
      · exact z
    have est : startD Ng.length [(.fn l.q l.φ (fun b => G1 b = none) H1 : D)] = some (.fn l.q l.φ (fun b => G1 b = none) H1) :: List.replicate (n - 1) none := by
      unfold startD
      rw [hn]
      rfl
    have rc : codeAny (model X.prog X.w) X.A (.call (.ref g) ⟨[.ref f], []⟩) (CR CX0 X.stack X.prog X.w H1 s1 Qv E0) s1 := by
      refine run_ofS (N := Ng) (ps := [a]) (us := [.ref f]) (vs := [.ref f]) lk hcg Sg (k := k + 1) hr I1.env0 (hb s1 [.ref f] I1.kIn rfl) (.cons rfl .nil) rfl fun hr' => ?_
      have gdd : (X.A.deeper (envOfC x sg s1.heap.objs.size g cdv)).guards = some [] := hgd
      have B := hG X.A X.stack s1 H1 ⟨l.q, l.φ, fun b => G1 b = none, H1, fun E' G' Q' => l.t (fun x _ G2 => E' x G2) ρ G' Q'⟩ hr' gdd (fun W pn xe p1 p2 tk => by
        rw [lq, lφ]
        exact act_of I1 r1 LS hbind hr' hgd tk hbody hNg hva hd1 hd2)
      refine ⟨_, B.nox, startD Ng.length [.fn l.q l.φ (fun b => G1 b = none) H1], G1, { nx := fun _ G' => Q .non G', rt := Q }, start_rel (repL_one rep) r1.gok, ?_, ?_, ?_, ?_, ?_⟩
      · rw [est]
        exact hrun _ _
      · exact fun σ' ρ' H' G' e' r' h' => kq .non .non H' G' (e1.trans e') (r1.ext e' r'.gok) (by unfold RepV; rfl) h'
      · exact fun v d H' G' e' g' v' h' => kq v d H' G' (e1.trans e') (r1.ext e' g') v' h'
      · exact fun _ _ _ _ _ _ z => z.elim
      · exact fun _ _ _ _ _ _ z => z.elim
    refine wpAny_call (codeAny_mono rc fun r2 s' hq => ?_)
    cases r2 with
    | error e => exact (show False from hq).elim
    | ok fl =>
      cases fl with
      | ret u => exact I1.after hq
      | next => exact False.elim hq
      | brk => exact False.elim hq
      | cont => exact False.elim hq
end
end Dl

namespace Dl
open PySem L2 PyProof.Rows

abbrev CTab := List (Str × List Str × List Str)
def CTab.names (T : CTab) : List Str := T.map (·.1)
structure ExT1 (K : PySem.W.Frag) (T : CTab) (c : Str) (as fs : List Str) : Prop where
  cl : (PySem.W.clsIn K (He.ga K c)).isSome = true
  xf : XfC K (He.ga K c)
  ha : PySem.W.findIn K (.ref (He.ga K c)) "__class__" = some (some (.builtin "object.__class__"))
  hn : PySem.W.specialIn K (.builtin "object.__class__") "__get__" = some (some (.builtin "getset_descriptor.__get__"))
  ht : PySem.W.takesIn K (.builtin "object.__class__") = some true
  hm : PySem.W.mroIn K (He.ga K c) (.type "object") = some true
  ve : PySem.W.kitOne K (.ref (He.ga K c)) (.type "ValueError") = some true
  no : ∀ f ∈ fs, PySem.W.findIn K (.ref (He.ga K c)) f = some none
  sub : ∀ t ∈ T.names, PySem.W.kitOne K (.ref (He.ga K c)) (.ref (He.ga K t)) = some (as.contains t) ∧ PySem.W.exmOne K (.ref (He.ga K c)) (.ref (He.ga K t)) = some (as.contains t)
def ExT (K : PySem.W.Frag) (T : CTab) : Prop := ∀ c as fs, (c, as, fs) ∈ T → ExT1 K T c as fs
def exT1B (K : PySem.W.Frag) (T : CTab) (c : Str) (as fs : List Str) : Bool :=
  (PySem.W.clsIn K (He.ga K c)).isSome && (xfB K (He.ga K c) && (decide (PySem.W.findIn K (.ref (He.ga K c)) "__class__" = some (some (.builtin "object.__class__"))) && (decide (PySem.W.specialIn K (.builtin "object.__class__") "__get__" = some (some (.builtin "getset_descriptor.__get__"))) &&
  (decide (PySem.W.takesIn K (.builtin "object.__class__") = some true) && (decide (PySem.W.mroIn K (He.ga K c) (.type "object") = some true) && (decide (PySem.W.kitOne K (.ref (He.ga K c)) (.type "ValueError") = some true) && (fs.all (fun f => decide (PySem.W.findIn K (.ref (He.ga K c)) f = some none)) &&
  T.names.all fun t => decide (PySem.W.kitOne K (.ref (He.ga K c)) (.ref (He.ga K t)) = some (as.contains t)) && decide (PySem.W.exmOne K (.ref (He.ga K c)) (.ref (He.ga K t)) = some (as.contains t)))))))))
def exTB (K : PySem.W.Frag) (T : CTab) : Bool := T.all fun p => exT1B K T p.1 p.2.1 p.2.2
theorem exTB_ok {K : PySem.W.Frag} {T : CTab} (h : exTB K T = true) : ExT K T := by
  intro c as fs hm
  have h1 := List.all_eq_true.mp h _ hm
  unfold exT1B at h1
  simp only [Bool.and_eq_true, decide_eq_true_eq, List.all_eq_true] at h1
  obtain ⟨a1, a2, a3, a4, a5, a6, a7, a8, a9⟩ := h1
  exact ⟨a1, xfB_ok a2, a3, a4, a5, a6, a7, a8, a9⟩

def dIsX (CT : CTab) (a : Addr) (c : Str) (d : Addr) (te : DTE) (T : Str) : DTE := fun ρ G Q => te ρ G fun v G1 => (∃ ns vs, v = .exh a c d ns vs) ∧ ∃ as fs, (c, as, fs) ∈ CT ∧ T ∈ CT.names ∧ Q (.bl (as.contains T)) G1
def dExf (CT : CTab) (a : Addr) (c : Str) (d : Addr) (te : DTE) (f : Str) : DTE := fun ρ G Q => te ρ G fun v G1 => ∃ ns vs y, v = .exh a c d ns vs ∧ (∃ as fs, (c, as, fs) ∈ CT ∧ f ∈ fs) ∧ (ns.zip vs).lookup f = some y ∧ Q y G1
theorem zip_look {K : PySem.W.Frag} {G : GH} {H : Hp} {f : Str} : ∀ {ns : List Str} {vs : List D} {ws : List (Str × V)} {y : D}, ws.map (·.1) = ns → RepL K G H vs (ws.map (·.2)) → (ns.zip vs).lookup f = some y → ∃ v, ws.lookup f = some v ∧ RepV K G H y v
  | [], _, _, _, _, _, h => by simp at h
  | _ :: _, [], _, _, _, _, h => by simp at h
  | n :: ns, d :: vs, ws, y, e, r, h => by
    match ws, e, r with
    | [], e, _ => simp at e
    | (m, v) :: ws, e, r =>
      simp only [List.map_cons, List.cons.injEq] at e r
      unfold RepL at r
      obtain ⟨x, t, e1, r1, r2⟩ := r
      simp only [List.cons.injEq] at e1
      obtain ⟨rfl, rfl⟩ := e1
      obtain ⟨rfl, e9⟩ := e
      simp only [List.zip_cons_cons, List.lookup_cons] at h ⊢
      cases q : (f == m) with
      | true =>
        rw [q] at h
        cases h
        exact ⟨v, rfl, r1⟩
      | false =>
        rw [q] at h
        exact zip_look e9 r2 h
section
variable {X : Cx} {CT : CTab} {a d : Addr} {c T f : Str} {oe : Obj} {pn : List (Addr × Obj)} {e : Expr} {te : DTE} {p pt pos : Pos}
theorem inst_exh (hz : Zc (.ref (He.ga X.K c)) (some d) oe) (hf : ∃ vs, oe.data = .fields vs) {pins : List (Addr × Obj)} {σ : L2.St} {H : Hp} {s : Shared} {ws : List (Str × V)} (I : Inv (X.suite a ((a, oe) :: pn)) pins σ H s) (hx : H d = some (.xd ws)) :
    ∃ od, PySem.W.InstAt s.heap a oe (He.ga X.K c) (some od) := by
  obtain ⟨hget, _⟩ := I.pin (a, oe) (List.mem_append.mpr (.inl List.mem_cons_self))
  obtain ⟨vs, hv⟩ := hf
  have ox : ObjOk X.prog X.w H s.heap d (.xd ws) := I.hok d _ hx
  obtain ⟨mA, ⟨od, es, ep, ho, hr⟩, _⟩ := ox
  refine ⟨od, ?_⟩
  obtain ⟨oc, odd, oda, osl⟩ := oe
  obtain ⟨z1, z2⟩ := hz
  dsimp only at z1 z2 hv
  subst z1 z2 hv
  exact ⟨hget, rfl, rfl, ho⟩
theorem call_isX (ET : ExT X.K CT) (hz : Zc (.ref (He.ga X.K c)) (some d) oe) (hf : ∃ vs, oe.data = .fields vs) : CallR (X.suite a ((a, oe) :: pn)) (.builtin "isinstance") (fun xs H Q => ∃ (as fs : List Str) (ws : List (Str × V)) (v : V) (b : Bool), xs = [V.ref a, v] ∧ (c, as, fs) ∈ CT ∧ H d = some (.xd ws) ∧
    ((∃ cv, (∀ u, RelV v u → u = cv) ∧ PySem.W.kitOne X.K (.ref (He.ga X.K c)) cv = some b) ∨ ∃ (t : Addr) (cs : List Addr), v = V.ref t ∧ H t = some (.tup (cs.map V.ref)) ∧ PySem.W.kitAny X.K (.ref (He.ga X.K c)) (cs.map Value.ref) = some b) ∧ Q (.bl b) H) := by
  intro pins s σ H xs us Q I r h
  obtain ⟨as, fs, ws, v, b, rfl, m1, hx, hc, q⟩ := h
  have E1 := ET c as fs m1
  obtain ⟨od, J⟩ := inst_exh hz hf I hx
  cases r with
  | @cons _ u1 _ ur1 rx rr =>
  cases rr with
  | @cons _ u2 _ ur2 rt rr =>
  cases rr
  obtain rfl : u1 = Value.ref a := rx
  have KX := PySem.W.kitx_exc (x := a) (ox := oe) (od := some od) E1.cl E1.xf.ga E1.xf.gg E1.xf.exC E1.ha E1.hn E1.ht E1.hm
  rcases hc with ⟨cv, h1, h2⟩ | ⟨t, cs, rfl, ht, h2⟩
  · rw [h1 _ rt]
    exact PySem.W.kia_one KX I.kIn J h2 (fun z => nomatch z) fun tk => ⟨.bl b, H, I.kept (t' := tk) fun _ _ z => z, rfl, q⟩
  · obtain rfl : u2 = Value.ref t := rt
    obtain ⟨hsz, its, rv, ⟨ot, p1, p2, n, p3⟩⟩ := I.hok t _ ht
    have e : its = cs.map Value.ref := by
      clear h2 ht p1 p2 p3 hsz
      induction cs generalizing its with
      | nil => cases rv; rfl
      | cons y ys ih =>
        simp only [List.map_cons] at rv
        cases rv with
        | cons r1 r2 =>
          rw [ih _ r2]
          cases r1
          rfl
    subst e
    obtain ⟨tc, tdd, tda, tsl⟩ := ot
    dsimp only at p2 p3
    subst p2 p3
    exact PySem.W.kia_tup KX I.kIn J p1 h2 (fun z => nomatch z) fun tk => ⟨.bl b, H, I.kept (t' := tk) fun _ _ z => z, rfl, q⟩
theorem de_isX (ET : ExT X.K CT) (hz : Zc (.ref (He.ga X.K c)) (some d) oe) (hf : ∃ vs, oe.data = .fields vs) (hI : Gl X "isinstance") (mI : X.mg "isinstance" = none) (hT : Gl X T) (mT : X.mg T = some (.ref (He.ga X.K T))) (he : DE (X.suite a ((a, oe) :: pn)) e te)
    (hdb : (T == ("__debug__" : Str)) = false := by decide) (h1 : starEach [e, .Name T pt] X.env = (false, eval e X.env) :: starEach [.Name T pt] X.env := by rfl) (hpl : (backTo pos (starEach [.Name T pt] X.env)).any (·.1) = false := by rfl)
    (h2 : starEach [.Name T pt] X.env = (false, eval (.Name T pt) X.env) :: starEach [] X.env := by rfl) :
    DE (X.suite a ((a, oe) :: pn)) (.Call (.Name "isinstance" p) [e, .Name T pt] [] pos) (dIsX CT a c d te T) := by
  have hp : PE (X.suite a ((a, oe) :: pn)) (.Name T pt) (tC (.ref (He.ga X.K T))) := pe_glob hT mT rfl hdb
  refine (pe_callB (X := X.suite a ((a, oe) :: pn)) (call_isX ET hz hf) hI mI (by first | rfl | kernel_rfl) (pa_cons he (pa_cons hp pa_nil h2) h1) (he := h1) (hpl := hpl)).imp fun σ H Q ⟨ρ, G, q, r, h, k⟩ => ?_
  refine ⟨ρ, G, _, r, h, fun v dv H1 G1 e1 r1 v1 hh => ?_⟩
  obtain ⟨⟨ns, vs, rfl⟩, as, fs, m1, m2, hq⟩ := hh
  unfold RepV at v1
  obtain ⟨ws, rfl, gd, hd, _, _⟩ := v1
  exact ⟨as, fs, ws, _, _, rfl, m1, hd, .inl ⟨_, fun u z => z, ((ET c as fs m1).sub T m2).1⟩, k _ _ H1 G1 e1 r1 (by unfold RepV; rfl) hq⟩
theorem de_exf (ET : ExT X.K CT) (hz : Zc (.ref (He.ga X.K c)) (some d) oe) (hf : ∃ vs, oe.data = .fields vs) (hm : ∃ as fs, (c, as, fs) ∈ CT ∧ f ∈ fs) (he : DE (X.suite a ((a, oe) :: pn)) e te) (hb : attributeBase e f X.env (eval e X.env) = eval e X.env := by rfl) :
    DE (X.suite a ((a, oe) :: pn)) (.Attribute e f pos) (dExf CT a c d te f) := by
  obtain ⟨as, fs, m1, m2⟩ := hm
  have E1 := ET c as fs m1
  refine (pe_xf E1.xf (E1.no f m2) hz hf he hb).imp fun σ H Q ⟨ρ, G, q, r, h, k⟩ => ?_
  refine ⟨ρ, G, _, r, h, fun v dv H1 G1 e1 r1 v1 hh => ?_⟩
  obtain ⟨ns, vs, y, rfl, _, hl, hq⟩ := hh
  unfold RepV at v1
  obtain ⟨ws, rfl, gd, hd, n1, rl⟩ := v1
  obtain ⟨u, hu, ru⟩ := zip_look n1 rl hl
  exact ⟨rfl, rfl, d, ws, u, rfl, hd, hu, k _ _ H1 G1 e1 r1 ru hq⟩
theorem de_exfA (ET : ExT X.K CT) (hz : Zc (.ref (He.ga X.K c)) (some d) oe) (hf : ∃ vs, oe.data = .fields vs) (he : DE (X.suite a ((a, oe) :: pn)) e te) (hb : attributeBase e f X.env (eval e X.env) = eval e X.env := by rfl) :
    DE (X.suite a ((a, oe) :: pn)) (.Attribute e f pos) (dExf CT a c d te f) := by
  by_cases hm : ∃ as fs, (c, as, fs) ∈ CT ∧ f ∈ fs
  · exact de_exf ET hz hf hm he hb
  · refine ⟨fun pins s σ H Q I hh => ?_⟩
    obtain ⟨ρ, G, q, r, h, k⟩ := hh
    refine attr_of hb (thn (he.run pins s σ H (fun _ _ => False) I ⟨ρ, G, _, r, h, fun v dv H1 G1 e1 r1 v1 hh => ?_⟩) fun u s1 z => ?_)
    · obtain ⟨ns, vs, y, rfl, m, _⟩ := hh
      exact hm m
    · obtain ⟨_, _, _, _, q⟩ := z
      exact q.elim
end

theorem DRel.unset {K : PySem.W.Frag} {σ : L2.St} {H : Hp} {ρ : DSt} {G : GH} (r : DRel K σ H ρ G) (i : Nat) : DRel K (σ.set i none) H (ρ.set i none) G := by
  have z := r.wipe [i]
  exact z
def dTry (CT : CTab) (T : Str) (i : Nat) (tb : XTS) (ts : Addr → Str → Addr → DTS) : DTS := fun E ρ G => tb (fun x ρ' G' => (∃ as fs, (x.cls, as, fs) ∈ CT ∧ as.contains T = true) ∧
  ∀ a d, ts a x.cls d { nx := fun ρ2 G2 => E.nx (ρ2.set i none) G2, rt := E.rt, bk := fun ρ2 G2 => E.bk (ρ2.set i none) G2, ct := fun ρ2 G2 => E.ct (ρ2.set i none) G2 } (ρ'.set i (some (.exh a x.cls d (x.fs.map (·.1)) (x.fs.map (·.2))))) G') E ρ G
section
variable {X : Cx} {CT : CTab} {T n : Str} {i : Nat} {body suite : List Stmt} {b₀ : Stmt} {np pos pos' : Pos} {tb : XTS} {ts : Addr → Str → Addr → DTS}
theorem ds_try (ET : ExT X.K CT) (hs : X.stack = X.env :: X.outer) (hf : X.env.frame = some X.env.locals) (hN : X.N.Nodup) (hi : X.N[i]? = some n) (hln : X.env.kindOf n = some .local) (hT : Gl X T) (mT : X.mg T = some (.ref (He.ga X.K T))) (hTn : T ∈ CT.names)
    (hb : ∀ (W : WX) (pn : List (Addr × Obj)) (xe : Value → Shared → Prop), Takes (X.tr pn xe) W → PassesOwn (model X.prog X.w) X.A X.env xe → XSs (X.tr pn xe) W body tb)
    (hsu : ∀ (a : Addr) (oe : Obj) (c : Str) (d : Addr) (pn : List (Addr × Obj)), Zc (.ref (He.ga X.K c)) (some d) oe → (∃ vs, oe.data = .fields vs) → DSs (X.suite a ((a, oe) :: pn)) (b₀ :: suite) (ts a c d))
    (hdb : (T == ("__debug__" : Str)) = false := by decide) :
    DS X (.Try body [.ExceptHandler (some (.Name T np)) (some n) (b₀ :: suite) pos'] [] [] pos) (dTry CT T i tb ts) := by
  refine PS.imp (ps_try_as (Wout := fun _ _ _ _ => False) (tb := fun W => upXS X.K W tb) (ts := fun a cls od D σ H => ∃ c d, cls = .ref (He.ga X.K c) ∧ od = some d ∧ upS X.K (ts a c d) D σ H) hs hf hN hi hln ⟨hT, hdb, .inl mT⟩ LamX.takes0 hb fun a oe cls od pn hz hv => ⟨fun pins s σ H D I hh => ?_⟩) ?_
  · obtain ⟨c, d, rfl, rfl, hh⟩ := hh
    exact (hsu a oe c d pn hz hv).run pins s σ H D I hh
  · intro D σ H hh
    obtain ⟨ρ, G, E, r, h, k1, k2, k3, k4⟩ := hh
    refine ⟨ρ, G, E, _, r, h, k1, k2, k3, k4, fun x c od σ' H' ρ' G' e r' rx hz => ?_⟩
    obtain ⟨rfl, d, ws, rfl, gd, hd, n1, rl⟩ := rx
    obtain ⟨⟨as, fs, m1, m2⟩, hz⟩ := hz
    refine ⟨true, by rw [← m2]; exact ((ET x.cls as fs m1).sub T hTn).2, fun _ a na => ?_, fun z => by cases z⟩
    refine ⟨x.cls, d, rfl, rfl, ρ'.set i (some (.exh a x.cls d (x.fs.map (·.1)) (x.fs.map (·.2)))), G', _, r'.set i (v := .ref a) (by unfold RepV; exact ⟨ws, rfl, gd, hd, n1, rl⟩), hz a d, ?_, ?_, ?_, ?_⟩
    · exact fun σ2 ρ2 H2 G2 e2 r2 h2 => k1 _ _ _ _ (e.trans e2) (r2.unset i) h2
    · exact fun v dv H2 G2 e2 g2 v2 h2 => k2 v dv H2 G2 (e.trans e2) g2 v2 h2
    · exact fun σ2 ρ2 H2 G2 e2 r2 h2 => k3 _ _ _ _ (e.trans e2) (r2.unset i) h2
    · exact fun σ2 ρ2 H2 G2 e2 r2 h2 => k4 _ _ _ _ (e.trans e2) (r2.unset i) h2
end
end Dl

namespace Dl
open PySem L2
@[simp] theorem ofString_inj {a b : String} : (Str.ofString a = Str.ofString b) ↔ a = b := by
  rw [Str.ofString_eq_toList, Str.ofString_eq_toList]
  constructor
  · intro h
    have h1 : (a.toList.map Char.toNat).toArray = (b.toList.map Char.toNat).toArray := by injection h
    have h2 : a.toList.map Char.toNat = b.toList.map Char.toNat := by injection h1
    have h3 : a.toList = b.toList := by
      refine List.map_inj_right (f := Char.toNat) ?_ |>.mp h2
      intro x y e
      exact Char.ext (UInt32.toNat_inj.mp e)
    exact String.toList_inj.mp h3
  · rintro rfl; rfl
def Grow (G G' : GH) : Prop := ∀ a o, G a = some o → G' a = some o
theorem Grow.refl (G : GH) : Grow G G := fun _ _ h => h
theorem Grow.trans {G G1 G2 : GH} (h : Grow G G1) (k : Grow G1 G2) : Grow G G2 := fun a o e => k a o (h a o e)
theorem Grow.upd {G : GH} {p : Addr} {o : DO} (h : G p = none) : Grow G (updG G p o) := fun a u e => by
  rw [updG_ne]; exact e
  rintro rfl; rw [h] at e; cases e
theorem Grow.upd2 {G G' : GH} {p : Addr} {o : DO} (h : G p = none) (k : Grow G G') : Grow G (updG G' p o) := fun a u e => by
  rw [updG_ne]; exact k a u e
  rintro rfl; rw [h] at e; cases e
theorem Grow.drop {G G' : GH} {p : Addr} (h : G p = none) (k : Grow G G') : Grow G (dropG G' p) := fun a u e => by
  rw [dropG_ne]; exact k a u e
  rintro rfl; rw [h] at e; cases e
def pSp (R : List D → D → Prop) : DSp := fun ds G Q _ => ∃ d, R ds d ∧ ∀ G', Grow G G' → Q d G'
theorem dWhile_of {c : DTT} {tb : DTS} {E : DEnds} {I : Nat → DSt → GH → Prop}
    (h : ∀ n ρ G, I n ρ G → ∀ K : DSt → GH → Prop, (∀ m, m + 1 = n → ∀ ρ' G', I m ρ' G' → K ρ' G') → c ρ G fun b G1 => if b = true then tb { E with nx := K, ct := K, bk := E.nx } ρ G1 else E.nx ρ G1) :
    ∀ n ρ G, I n ρ G → dWhile c tb E ρ G := by
  have key : ∀ n ρ G, I n ρ G → dWhileGo c tb (n + 1) E ρ G := by
    intro n
    induction n with
    | zero => intro ρ G i; unfold dWhileGo; exact h 0 ρ G i _ (fun m e => by omega)
    | succ n ih =>
      intro ρ G i
      unfold dWhileGo
      refine h _ ρ G i _ ?_
      intro m e ρ' G' j
      have e2 : m = n := by omega
      subst e2
      exact ih ρ' G' j
  exact fun n ρ G i => ⟨n + 1, key n ρ G i⟩
theorem dForGo_of {ok : GH → Prop} {g : DTG} {tb : DTS} {E : DEnds} {I : List D → DSt → GH → Prop}
    (h0 : ∀ ρ G, I [] ρ G → ok G ∧ E.nx ρ G)
    (h : ∀ x xs ρ G, I (x :: xs) ρ G → ∀ K : DSt → GH → Prop, (∀ ρ' G', I xs ρ' G' → K ρ' G') → ok G ∧ g x ρ G fun ρ2 G2 => tb { E with nx := K, ct := K, bk := E.nx } ρ2 G2) :
    ∀ items ρ G, I items ρ G → dForGo ok g tb items E ρ G := by
  intro items
  induction items with
  | nil => intro ρ G i; unfold dForGo; exact h0 ρ G i
  | cons x xs ih => intro ρ G i; unfold dForGo; exact h x xs ρ G i _ ih
theorem dLcGo_of {ok : GH → Prop} {ct : CT} {te : DTE} {ρ : DSt} {p : Addr} {Q : DK} {I : List D → List D → GH → Prop}
    (h0 : ∀ acc G, I [] acc G → ok G ∧ Q (.ref p) G)
    (h : ∀ x xs acc G, I (x :: xs) acc G → ok G ∧ ∃ ρ2, bindC ct x ρ = some ρ2 ∧ ∀ K : DK, (∀ y G4, G4 p = some (.lst acc) → acc.length < sizeLine → I xs (acc ++ [y]) (updG G4 p (.lst (acc ++ [y]))) → K y G4) → te ρ2 G K) :
    ∀ items acc G, I items acc G → dLcGo ok ct dYes te ρ p items G Q := by
  intro items
  induction items with
  | nil => intro acc G i; unfold dLcGo; exact h0 acc G i
  | cons x xs ih =>
    intro acc G i
    unfold dLcGo
    obtain ⟨a, ρ2, e, k⟩ := h x xs acc G i
    refine ⟨a, ?_⟩
    rw [e]
    simp only [dYes, if_true]
    refine k _ ?_
    intro y G4 e4 hl j
    rw [e4]
    exact ⟨hl, ih _ _ j⟩
def PureE (te : DTE) (ct : CT) (ρ : DSt) (x y : D) : Prop := ∃ ρ2, bindC ct x ρ = some ρ2 ∧ ∀ (G : GH) (K : DK), (∀ G', Grow G G' → K y G') → te ρ2 G K
mutual
/-- plain data with ints of few digits -/
def smD : D → Bool
  | .non => true
  | .bl _ => true
  | .int i => decide (i.natAbs < 10 ^ 12)
  | .str x => PyData.strOk x
  | .tup ds => smDs ds
  | .lst ds => smDs ds
  | _ => false
def smDs : List D → Bool
  | [] => true
  | d :: ds => smD d && smDs ds
end
mutual
def wtD : D → Nat
  | .str x => x.length
  | .int _ => 40
  | .tup ds => wtDs ds
  | .lst ds => wtDs ds
  | _ => 0
def wtDs : List D → Nat
  | [] => 0
  | d :: ds => wtD d + 1 + wtDs ds
end
theorem ixN_at {n j : Nat} (hj : j < n) : ixN n (j : Int) = some j := by
  unfold ixN
  rw [if_pos (Int.natCast_nonneg j), if_pos (by omega)]
  simp
theorem atI_nat {α : Type} {xs : List α} {i : Nat} {x : α} (h : xs[i]? = some x) : atI xs (i : Int) = some x := by
  have hl : i < xs.length := by
    rcases Nat.lt_or_ge i xs.length with q | q
    · exact q
    · rw [List.getElem?_eq_none q] at h; cases h
  unfold atI
  rw [ixN_at hl]
  exact h
@[simp] theorem atI_0 {α : Type} {x : α} {xs : List α} : atI (x :: xs) 0 = some x := atI_nat (i := 0) rfl
@[simp] theorem atI_1 {α : Type} {x y : α} {xs : List α} : atI (x :: y :: xs) 1 = some y := atI_nat (i := 1) rfl
@[simp] theorem atI_2 {α : Type} {x y z : α} {xs : List α} : atI (x :: y :: z :: xs) 2 = some z := atI_nat (i := 2) rfl
@[simp] theorem atI_3 {α : Type} {x y z u : α} {xs : List α} : atI (x :: y :: z :: u :: xs) 3 = some u := atI_nat (i := 3) rfl
@[simp] theorem atI_4 {α : Type} {x y z u v : α} {xs : List α} : atI (x :: y :: z :: u :: v :: xs) 4 = some v := atI_nat (i := 4) rfl
end Dl

namespace Dl
open PySem L2
inductive Wk where
  | tick (n : Int)
  | sme (a b : Int) (t : Bool)
  | lop (a b : Int) (t : Bool) (w : Wk)
  | eit (ws : List Wk)
  | row (ws : List Wk)
  | bes (a b : Wk)
mutual
def toD : Wk → D
  | .tick n => .tup [.str "tick", .int n]
  | .sme a b t => .tup [.str "some", .int a, .int b, .bl t]
  | .lop a b t w => .tup [.str "loop", .int a, .int b, .bl t, toD w]
  | .eit ws => .tup [.str "either", .tup (toDs ws)]
  | .row ws => .tup [.str "row", .tup (toDs ws)]
  | .bes a b => .tup [.str "beside", toD a, toD b]
def toDs : List Wk → List D
  | [] => []
  | w :: ws => toD w :: toDs ws
end
theorem toDs_map : ∀ ws : List Wk, toDs ws = ws.map toD
  | [] => by simp [toDs]
  | w :: ws => by simp [toDs, toDs_map ws]
@[simp] theorem toDs_len (ws : List Wk) : (toDs ws).length = ws.length := by rw [toDs_map]; simp
inductive Sg where
  | tick
  | more
  | fin
  | many (n : Int)
  | way (i : Nat)
  | left (s : Sg)
  | right (s : Sg)
def sgD : Sg → D
  | .tick => .str "tick"
  | .more => .str "more"
  | .fin => .str "end"
  | .many n => .tup [.str "many", .int n]
  | .way i => .tup [.str "way", .int (i : Nat)]
  | .left s => .tup [.str "left", sgD s]
  | .right s => .tup [.str "right", sgD s]
def isOver : Wk → Bool
  | .row [] => true
  | _ => false
def inRow : Wk → List Wk
  | .row us => us
  | x => [x]
def mkRow : List Wk → Wk
  | [w] => w
  | ws => .row ws
mutual
def tidyW : Wk → Wk
  | .bes a b => if isOver (tidyW a) && isOver (tidyW b) then .row [] else .bes (tidyW a) (tidyW b)
  | .row ws => mkRow (flatW ws)
  | w => w
def flatW : List Wk → List Wk
  | [] => []
  | w :: ws => inRow (tidyW w) ++ flatW ws
end
def manyS (a b : Int) : List Sg := (List.range (b + 1 - a).toNat).map fun i => Sg.many (a + (i : Nat))
mutual
def nxW : Wk → List Sg
  | .tick _ => [.tick]
  | .sme a b t => if t then manyS a b else (if 0 < b then [.tick] else []) ++ (if a = 0 then [.fin] else [])
  | .lop a b t _ => if t then manyS a b else (if 0 < b then [.more] else []) ++ (if a = 0 then [.fin] else [])
  | .eit ws => (List.range ws.length).map Sg.way
  | .row ws => nxWs ws
  | .bes a b => (nxW a).map .left ++ (nxW b).map .right
def nxWs : List Wk → List Sg
  | [] => []
  | w :: _ => nxW w
end
def tkW (n : Int) : Wk := if 0 < n then .tick n else .row []
def dec0 (a : Int) : Int := if a - 1 > 0 then a - 1 else 0
mutual
def behW : Wk → Sg → Wk
  | .tick n, _ => tkW (n - 1)
  | .sme _ _ true, .many n => tkW n
  | .sme a b false, .tick => .sme (dec0 a) (b - 1) false
  | .lop _ _ true w, .many n => .row (List.replicate n.toNat w)
  | .lop a b false w, .more => .row [w, .lop (dec0 a) (b - 1) false w]
  | .eit ws, .way i => ws.getD i (.row [])
  | .row ws, s => .row (behWs ws s)
  | .bes a b, .left s => .bes (behW a s) b
  | .bes a b, .right s => .bes a (behW b s)
  | _, _ => .row []
def behWs : List Wk → Sg → List Wk
  | [], _ => []
  | w :: ws, s => behW w s :: ws
end
mutual
/-- numbers from 0 to B, in order; ticks at least 1; a way at least -/
def okW (B : Int) : Wk → Prop
  | .tick n => 1 ≤ n ∧ n ≤ B
  | .sme a b _ => 0 ≤ a ∧ a ≤ b ∧ b ≤ B
  | .lop a b _ w => 0 ≤ a ∧ a ≤ b ∧ b ≤ B ∧ okW B w
  | .eit ws => ws ≠ [] ∧ okWs B ws
  | .row ws => okWs B ws
  | .bes a b => okW B a ∧ okW B b
def okWs (B : Int) : List Wk → Prop
  | [] => True
  | w :: ws => okW B w ∧ okWs B ws
end
mutual
/-- the most that may stand there at once, loops unrolled -/
def zW : Wk → Nat
  | .tick _ => 2
  | .sme _ _ _ => 2
  | .lop _ b _ w => 2 + (b.toNat + 1) * (zW w + 1)
  | .eit ws => 1 + zWs ws
  | .row ws => 1 + zWs ws
  | .bes a b => 1 + zW a + zW b
def zWs : List Wk → Nat
  | [] => 0
  | w :: ws => zW w + zWs ws
end
mutual
/-- tuples within one another -/
def dpW : Wk → Nat
  | .tick _ => 1
  | .sme _ _ _ => 1
  | .lop _ _ _ w => 1 + dpW w
  | .eit ws => 2 + dpWs ws
  | .row ws => 2 + dpWs ws
  | .bes a b => 1 + max (dpW a) (dpW b)
def dpWs : List Wk → Nat
  | [] => 0
  | w :: ws => max (dpW w) (dpWs ws)
end
theorem okWs_iff {B : Int} : ∀ {ws : List Wk}, okWs B ws ↔ ∀ w ∈ ws, okW B w
  | [] => by simp [okWs]
  | w :: ws => by simp [okWs, okWs_iff (ws := ws)]
theorem zWs_app (a b : List Wk) : zWs (a ++ b) = zWs a + zWs b := by
  induction a with
  | nil => simp [zWs]
  | cons x xs ih => simp only [List.cons_append, zWs, ih]; omega
theorem zW_pos : ∀ w : Wk, 1 ≤ zW w := by
  intro w; cases w <;> simp only [zW] <;> omega
theorem zWs_mem : ∀ {ws : List Wk} {w : Wk}, w ∈ ws → zW w ≤ zWs ws
  | x :: xs, w, h => by
    rcases List.mem_cons.mp h with e | e
    · subst e; simp only [zWs]; omega
    · have := zWs_mem e; simp only [zWs]; omega
theorem dpWs_mem : ∀ {ws : List Wk} {w : Wk}, w ∈ ws → dpW w ≤ dpWs ws
  | x :: xs, w, h => by
    rcases List.mem_cons.mp h with e | e
    · subst e; simp only [dpWs]; omega
    · have := dpWs_mem e; simp only [dpWs]; omega
theorem dpWs_app (a b : List Wk) : dpWs (a ++ b) = max (dpWs a) (dpWs b) := by
  induction a with
  | nil => simp [dpWs]
  | cons x xs ih => simp only [List.cons_append, dpWs, ih]; omega
theorem mkRow_cases (ws : List Wk) : (∃ w, ws = [w] ∧ mkRow ws = w) ∨ mkRow ws = .row ws := by
  cases ws with
  | nil => exact .inr rfl
  | cons w ws => cases ws with
    | nil => exact .inl ⟨w, rfl, rfl⟩
    | cons => exact .inr rfl
theorem inRow_ok {B : Int} {w : Wk} (h : okW B w) : okWs B (inRow w) := by
  cases w <;> simp only [inRow, okWs] <;> first | exact ⟨h, trivial⟩ | (simpa [okW] using h)
theorem okWs_app {B : Int} {a b : List Wk} (h : okWs B a) (k : okWs B b) : okWs B (a ++ b) := by
  rw [okWs_iff] at *
  intro w hw
  rcases List.mem_append.mp hw with e | e
  · exact h w e
  · exact k w e
mutual
theorem tidy_ok {B : Int} : ∀ w : Wk, okW B w → okW B (tidyW w)
  | .tick _, h => by simpa [tidyW] using h
  | .sme _ _ _, h => by simpa [tidyW] using h
  | .lop _ _ _ _, h => by simpa [tidyW] using h
  | .eit _, h => by simpa [tidyW] using h
  | .row ws, h => by
    have k := flat_ok ws (by simpa [okW] using h)
    rcases mkRow_cases (flatW ws) with ⟨w, e, f⟩ | f
    · rw [tidyW, f]; rw [e] at k; exact k.1
    · rw [tidyW, f]; simpa [okW] using k
  | .bes a b, h => by
    rw [okW] at h
    have h1 := tidy_ok a h.1
    have h2 := tidy_ok b h.2
    rw [tidyW]
    split
    · simp [okW, okWs]
    · simp [okW, h1, h2]
theorem flat_ok {B : Int} : ∀ ws : List Wk, okWs B ws → okWs B (flatW ws)
  | [], _ => by simp [flatW, okWs]
  | w :: ws, h => by
    rw [okWs] at h
    rw [flatW]
    exact okWs_app (inRow_ok (tidy_ok w h.1)) (flat_ok ws h.2)
end
theorem inRow_z {w : Wk} : zWs (inRow w) ≤ zW w := by
  cases w <;> simp only [inRow, zWs, zW] <;> omega
mutual
theorem tidy_z : ∀ w : Wk, zW (tidyW w) ≤ zW w
  | .tick _ => by simp [tidyW]
  | .sme _ _ _ => by simp [tidyW]
  | .lop _ _ _ _ => by simp [tidyW]
  | .eit _ => by simp [tidyW]
  | .row ws => by
    have k := flat_z ws
    rcases mkRow_cases (flatW ws) with ⟨w, e, f⟩ | f
    · rw [tidyW, f]; rw [e] at k; simp only [zWs, zW] at k ⊢; omega
    · rw [tidyW, f]; simp only [zW]; omega
  | .bes a b => by
    have h1 := tidy_z a
    have h2 := tidy_z b
    rw [tidyW]
    split
    · simp only [zW, zWs]; omega
    · simp only [zW]; omega
theorem flat_z : ∀ ws : List Wk, zWs (flatW ws) ≤ zWs ws
  | [] => by simp [flatW]
  | w :: ws => by
    have h1 := tidy_z w
    have h2 := flat_z ws
    have h3 := inRow_z (w := tidyW w)
    rw [flatW, zWs_app, zWs]
    omega
end
theorem inRow_dp {w : Wk} : dpWs (inRow w) ≤ dpW w := by
  cases w <;> simp only [inRow, dpWs, dpW] <;> omega
mutual
def pW : Wk → Nat
  | .tick _ => 3
  | .sme _ _ _ => 3
  | .lop _ _ _ w => 3 + max (dpW w) (pW w)
  | .eit ws => 4 + max (dpWs ws) (pWs ws)
  | .row ws => pWs ws
  | .bes a b => 3 + max (pW a) (pW b)
def pWs : List Wk → Nat
  | [] => 2
  | w :: ws => max (pW w) (pWs ws)
end
theorem two_pWs : ∀ ws : List Wk, 2 ≤ pWs ws
  | [] => by simp [pWs]
  | w :: ws => by have := two_pWs ws; simp only [pWs]; omega
theorem two_pW : ∀ w : Wk, 2 ≤ pW w := by
  intro w; cases w <;> simp only [pW] <;> first | omega | exact two_pWs _
theorem pWs_app (a b : List Wk) : pWs (a ++ b) = max (pWs a) (pWs b) := by
  induction a with
  | nil => have := two_pWs b; simp only [List.nil_append, pWs]; omega
  | cons x xs ih => simp only [List.cons_append, pWs, ih]; omega
theorem inRow_p {w : Wk} : pWs (inRow w) ≤ pW w := by
  have := two_pW w
  cases w <;> simp only [inRow, pWs, pW] at * <;> omega
mutual
theorem tidy_p : ∀ w : Wk, pW (tidyW w) ≤ pW w
  | .tick _ => by simp [tidyW]
  | .sme _ _ _ => by simp [tidyW]
  | .lop _ _ _ _ => by simp [tidyW]
  | .eit _ => by simp [tidyW]
  | .row ws => by
    have k := flat_p ws
    rcases mkRow_cases (flatW ws) with ⟨w, e, f⟩ | f
    · rw [tidyW, f]; rw [e] at k; simp only [pWs, pW] at k ⊢; omega
    · rw [tidyW, f]; simp only [pW]; omega
  | .bes a b => by
    have h1 := tidy_p a
    have h2 := tidy_p b
    rw [tidyW]
    split
    · simp only [pW, pWs]; omega
    · simp only [pW]; omega
theorem flat_p : ∀ ws : List Wk, pWs (flatW ws) ≤ pWs ws
  | [] => by simp [flatW]
  | w :: ws => by
    have h1 := tidy_p w
    have h2 := flat_p ws
    have h3 := inRow_p (w := tidyW w)
    rw [flatW, pWs_app, pWs]
    omega
end
mutual
theorem tidy_dp_p : ∀ w : Wk, dpW (tidyW w) ≤ pW w ∧ 2 + dpWs (inRow (tidyW w)) ≤ pW w
  | .tick _ => by simp [tidyW, inRow, dpWs, dpW, pW]
  | .sme _ _ _ => by simp [tidyW, inRow, dpWs, dpW, pW]
  | .lop _ _ _ _ => by simp only [tidyW, inRow, dpWs, dpW, pW]; omega
  | .eit _ => by simp only [tidyW, inRow, dpWs, dpW, pW]; omega
  | .row ws => by
    have k := flat_dp_p ws
    rcases mkRow_cases (flatW ws) with ⟨w, e, f⟩ | f
    · rw [tidyW, f]
      rw [e] at k
      have := inRow_dp (w := w)
      simp only [dpWs, dpW, pW] at k ⊢
      omega
    · rw [tidyW, f]; simp only [dpW, pW, inRow]; omega
  | .bes a b => by
    have h1 := tidy_dp_p a
    have h2 := tidy_dp_p b
    rw [tidyW]
    split
    · simp only [dpW, dpWs, pW, inRow]; omega
    · simp only [dpW, pW, inRow, dpWs]; omega
theorem flat_dp_p : ∀ ws : List Wk, 2 + dpWs (flatW ws) ≤ pWs ws
  | [] => by simp [flatW, dpWs, pWs]
  | w :: ws => by
    have h1 := tidy_dp_p w
    have h2 := flat_dp_p ws
    rw [flatW, dpWs_app, pWs]
    omega
end
theorem manyS_mem {a b : Int} {s : Sg} (h : s ∈ manyS a b) : ∃ n : Int, s = .many n ∧ a ≤ n ∧ n ≤ b := by
  unfold manyS at h
  obtain ⟨i, hi, rfl⟩ := List.mem_map.mp h
  rw [List.mem_range] at hi
  exact ⟨_, rfl, by omega, by omega⟩
theorem zWs_rep (n : Nat) (w : Wk) : zWs (List.replicate n w) = n * zW w := by
  induction n with
  | zero => simp [zWs]
  | succ n ih => rw [List.replicate_succ, zWs, ih, Nat.succ_mul]; omega
theorem okWs_rep {B : Int} (n : Nat) {w : Wk} (h : okW B w) : okWs B (List.replicate n w) := by
  rw [okWs_iff]; intro x hx; rw [List.eq_of_mem_replicate hx]; exact h
theorem dpWs_rep (n : Nat) (w : Wk) : dpWs (List.replicate n w) ≤ dpW w := by
  induction n with
  | zero => simp [dpWs]
  | succ n ih => rw [List.replicate_succ, dpWs]; omega
theorem pWs_rep (n : Nat) (w : Wk) : pWs (List.replicate n w) ≤ pW w := by
  induction n with
  | zero => simpa [pWs] using two_pW w
  | succ n ih => rw [List.replicate_succ, pWs]; omega
theorem pWs_mem : ∀ {ws : List Wk} {w : Wk}, w ∈ ws → pW w ≤ pWs ws
  | x :: xs, w, h => by
    rcases List.mem_cons.mp h with e | e
    · subst e; simp only [pWs]; omega
    · have := pWs_mem e; simp only [pWs]; omega
structure Bh (B : Int) (w v : Wk) : Prop where
  ok : okW B v
  z : zW v ≤ zW w
  dp : dpW v ≤ dpW w + 2
  p : pW v ≤ pW w
theorem bh_over {B : Int} {w : Wk} : Bh B w (.row []) := by
  refine ⟨by simp [okW, okWs], ?_, ?_, ?_⟩
  · have := zW_pos w; simp only [zW, zWs]; omega
  · have h3 : 1 ≤ dpW w := by cases w <;> simp only [dpW] <;> omega
    simp only [dpW, dpWs]; omega
  · have := two_pW w; simp only [pW, pWs]; omega
theorem bh_tk {B : Int} {w : Wk} {n : Int} (hn : n ≤ B) (h2 : 2 ≤ zW w) (h3 : 3 ≤ pW w) (hd : 1 ≤ dpW w) : Bh B w (tkW n) := by
  unfold tkW
  split
  · exact ⟨by rw [okW]; omega, by rw [zW]; omega, by rw [dpW]; omega, by rw [pW]; omega⟩
  · exact bh_over
mutual
theorem beh_ok {B : Int} : ∀ (w : Wk) (s : Sg), okW B w → s ∈ nxW w → Bh B w (behW w s)
  | .tick n, s, h, hs => by
    rw [okW] at h
    rw [show behW (.tick n) s = tkW (n - 1) from by simp [behW]]
    exact bh_tk (by omega) (by simp [zW]) (by simp [pW]) (by simp [dpW])
  | .sme a b true, s, h, hs => by
    rw [okW] at h
    rw [nxW, if_pos rfl] at hs
    obtain ⟨n, rfl, h1, h2⟩ := manyS_mem hs
    rw [show behW (.sme a b true) (.many n) = tkW n from by simp [behW]]
    exact bh_tk (by omega) (by simp [zW]) (by simp [pW]) (by simp [dpW])
  | .sme a b false, s, h, hs => by
    rw [okW] at h
    rw [nxW, if_neg (by decide)] at hs
    rcases List.mem_append.mp hs with q | q
    · split at q
      · rw [List.mem_singleton] at q; subst q
        rw [show behW (.sme a b false) .tick = .sme (dec0 a) (b - 1) false from by simp [behW]]
        refine ⟨?_, by simp [zW], by simp [dpW], by simp [pW]⟩
        rw [okW]; unfold dec0; split <;> omega
      · cases q
    · split at q
      · rw [List.mem_singleton] at q; subst q
        rw [show behW (.sme a b false) .fin = .row [] from by simp [behW]]
        exact bh_over
      · cases q
  | .lop a b true w, s, h, hs => by
    rw [okW] at h
    rw [nxW, if_pos rfl] at hs
    obtain ⟨n, rfl, h1, h2⟩ := manyS_mem hs
    rw [show behW (.lop a b true w) (.many n) = .row (List.replicate n.toNat w) from by simp [behW]]
    refine ⟨by rw [okW]; exact okWs_rep _ h.2.2.2, ?_, ?_, ?_⟩
    · rw [zW, zW, zWs_rep]
      have : n.toNat * zW w ≤ (b.toNat + 1) * (zW w + 1) := Nat.mul_le_mul (by omega) (by omega)
      omega
    · have := dpWs_rep n.toNat w
      rw [dpW, dpW]; omega
    · have := pWs_rep n.toNat w
      rw [pW, pW]; omega
  | .lop a b false w, s, h, hs => by
    rw [okW] at h
    rw [nxW, if_neg (by decide)] at hs
    rcases List.mem_append.mp hs with q | q
    · split at q
      · rename_i hb
        rw [List.mem_singleton] at q; subst q
        rw [show behW (.lop a b false w) .more = .row [w, .lop (dec0 a) (b - 1) false w] from by simp [behW]]
        refine ⟨?_, ?_, ?_, ?_⟩
        · simp only [okW, okWs]; unfold dec0; refine ⟨h.2.2.2, ⟨?_, ?_, ?_, h.2.2.2⟩, trivial⟩ <;> (try split) <;> omega
        · obtain ⟨m, hm⟩ : ∃ m, b.toNat = m + 1 := ⟨b.toNat - 1, by omega⟩
          have hm2 : (b - 1).toNat = m := by omega
          simp only [zW, zWs, hm, hm2, Nat.add_mul, Nat.mul_add]; omega
        · simp only [dpW, dpWs]; omega
        · have := two_pW w; simp only [pW, pWs]; omega
      · cases q
    · split at q
      · rw [List.mem_singleton] at q; subst q
        rw [show behW (.lop a b false w) .fin = .row [] from by simp [behW]]
        exact bh_over
      · cases q
  | .eit ws, s, h, hs => by
    rw [okW] at h
    rw [nxW] at hs
    obtain ⟨i, hi, rfl⟩ := List.mem_map.mp hs
    rw [List.mem_range] at hi
    have e : ws.getD i (.row []) = ws[i] := by simp [List.getD, hi]
    rw [show behW (.eit ws) (.way i) = ws.getD i (.row []) from by simp [behW], e]
    have m : ws[i] ∈ ws := List.getElem_mem hi
    have h1 := zWs_mem m
    have h2 := dpWs_mem m
    have h3 := pWs_mem m
    exact ⟨okWs_iff.mp h.2 _ m, by rw [zW]; omega, by rw [dpW]; omega, by rw [pW]; omega⟩
  | .row ws, s, h, hs => by
    rw [okW] at h
    rw [nxW] at hs
    rw [show behW (.row ws) s = .row (behWs ws s) from by simp [behW]]
    obtain ⟨h1, h2, h3, h4⟩ := behs_ok ws s h hs
    exact ⟨by rw [okW]; exact h1, by rw [zW, zW]; omega, by rw [dpW, dpW]; omega, by rw [pW, pW]; omega⟩
  | .bes a b, s, h, hs => by
    rw [okW] at h
    rw [nxW] at hs
    rcases List.mem_append.mp hs with q | q
    · obtain ⟨t, ht, rfl⟩ := List.mem_map.mp q
      obtain ⟨h1, h2, h3, h4⟩ := beh_ok a t h.1 ht
      rw [show behW (.bes a b) (.left t) = .bes (behW a t) b from by simp [behW]]
      exact ⟨by rw [okW]; exact ⟨h1, h.2⟩, by rw [zW, zW]; omega, by rw [dpW, dpW]; omega, by rw [pW, pW]; omega⟩
    · obtain ⟨t, ht, rfl⟩ := List.mem_map.mp q
      obtain ⟨h1, h2, h3, h4⟩ := beh_ok b t h.2 ht
      rw [show behW (.bes a b) (.right t) = .bes a (behW b t) from by simp [behW]]
      exact ⟨by rw [okW]; exact ⟨h.1, h1⟩, by rw [zW, zW]; omega, by rw [dpW, dpW]; omega, by rw [pW, pW]; omega⟩
theorem behs_ok {B : Int} : ∀ (ws : List Wk) (s : Sg), okWs B ws → s ∈ nxWs ws → okWs B (behWs ws s) ∧ zWs (behWs ws s) ≤ zWs ws ∧ dpWs (behWs ws s) ≤ dpWs ws + 2 ∧ pWs (behWs ws s) ≤ pWs ws
  | [], s, h, hs => by simp [nxWs] at hs
  | w :: ws, s, h, hs => by
    rw [okWs] at h
    rw [nxWs] at hs
    obtain ⟨h1, h2, h3, h4⟩ := beh_ok w s h.1 hs
    rw [show behWs (w :: ws) s = behW w s :: ws from by simp [behWs]]
    refine ⟨by rw [okWs]; exact ⟨h1, h.2⟩, by rw [zWs, zWs]; omega, by rw [dpWs, dpWs]; omega, by rw [pWs, pWs]; omega⟩
end
end Dl

namespace Dl
open PySem L2
theorem depDs_le : ∀ {ds : List D} {n : Nat}, (∀ d ∈ ds, depD d ≤ n) → depDs ds ≤ n
  | [], n, _ => by simp [depDs]
  | d :: ds, n, h => by
    have h1 := h d (List.mem_cons_self ..)
    have h2 := depDs_le fun x hx => h x (List.mem_cons_of_mem _ hx)
    rw [depDs]; omega
theorem so_tick : PyData.strOk "tick" = true := by decide +kernel
theorem so_some : PyData.strOk "some" = true := by decide +kernel
theorem so_loop : PyData.strOk "loop" = true := by decide +kernel
theorem so_either : PyData.strOk "either" = true := by decide +kernel
theorem so_row : PyData.strOk "row" = true := by decide +kernel
theorem so_beside : PyData.strOk "beside" = true := by decide +kernel
theorem sl_tick : Str.length "tick" = 4 := by decide +kernel
theorem sl_some : Str.length "some" = 4 := by decide +kernel
theorem sl_loop : Str.length "loop" = 4 := by decide +kernel
theorem sl_either : Str.length "either" = 6 := by decide +kernel
theorem sl_row : Str.length "row" = 3 := by decide +kernel
theorem sl_beside : Str.length "beside" = 6 := by decide +kernel
theorem small12 {B n : Int} (hB : B ≤ 999) (h : 0 ≤ n) (k : n ≤ B) : decide (n.natAbs < 10 ^ 12) = true := by
  rw [decide_eq_true_eq]
  have e : (10 : Nat) ^ 12 = 1000000000000 := by decide
  omega
mutual
theorem sm_toD {B : Int} (hB : B ≤ 999) : ∀ w : Wk, okW B w → smD (toD w) = true
  | .tick n, h => by
    rw [okW] at h
    simp only [toD, smD, smDs, so_tick, small12 hB (show 0 ≤ n by omega) h.2, Bool.and_true]
  | .sme a b t, h => by
    rw [okW] at h
    simp only [toD, smD, smDs, so_some, small12 hB h.1 (show a ≤ B by omega), small12 hB (show 0 ≤ b by omega) h.2.2, Bool.and_true]
  | .lop a b t w, h => by
    rw [okW] at h
    simp only [toD, smD, smDs, so_loop, small12 hB h.1 (show a ≤ B by omega), small12 hB (show 0 ≤ b by omega) h.2.2.1, sm_toD hB w h.2.2.2, Bool.and_true]
  | .eit ws, h => by
    rw [okW] at h
    simp only [toD, smD, smDs, so_either, sm_toDs hB ws h.2, Bool.and_true]
  | .row ws, h => by
    rw [okW] at h
    simp only [toD, smD, smDs, so_row, sm_toDs hB ws h, Bool.and_true]
  | .bes a b, h => by
    rw [okW] at h
    simp only [toD, smD, smDs, so_beside, sm_toD hB a h.1, sm_toD hB b h.2, Bool.and_true]
theorem sm_toDs {B : Int} (hB : B ≤ 999) : ∀ ws : List Wk, okWs B ws → smDs (toDs ws) = true
  | [], _ => by simp [toDs, smDs]
  | w :: ws, h => by
    rw [okWs] at h
    simp only [toDs, smDs, sm_toD hB w h.1, sm_toDs hB ws h.2, Bool.and_true]
end
mutual
theorem dep_toD : ∀ w : Wk, depD (toD w) = dpW w
  | .tick n => by simp [toD, depD, depDs, dpW]
  | .sme a b t => by simp [toD, depD, depDs, dpW]
  | .lop a b t w => by simp [toD, depD, depDs, dpW, dep_toD w]; omega
  | .eit ws => by simp [toD, depD, depDs, dpW, dep_toDs ws]; omega
  | .row ws => by simp [toD, depD, depDs, dpW, dep_toDs ws]; omega
  | .bes a b => by simp [toD, depD, depDs, dpW, dep_toD a, dep_toD b]; omega
theorem dep_toDs : ∀ ws : List Wk, depDs (toDs ws) = dpWs ws
  | [] => by simp [toDs, depDs, dpWs]
  | w :: ws => by simp [toDs, depDs, dpWs, dep_toD w, dep_toDs ws]
end
mutual
theorem wt_toD : ∀ w : Wk, wtD (toD w) + 1 ≤ 60 * zW w
  | .tick n => by simp [toD, wtD, wtDs, zW, sl_tick]
  | .sme a b t => by simp [toD, wtD, wtDs, zW, sl_some]
  | .lop a b t w => by
    have h := wt_toD w
    simp only [toD, wtD, wtDs, zW, sl_loop]
    have : 1 * (zW w + 1) ≤ (b.toNat + 1) * (zW w + 1) := Nat.mul_le_mul (by omega) (by omega)
    omega
  | .eit ws => by have h := wt_toDs ws; simp only [toD, wtD, wtDs, zW, sl_either]; omega
  | .row ws => by have h := wt_toDs ws; simp only [toD, wtD, wtDs, zW, sl_row]; omega
  | .bes a b => by have h1 := wt_toD a; have h2 := wt_toD b; simp only [toD, wtD, wtDs, zW, sl_beside]; omega
theorem wt_toDs : ∀ ws : List Wk, wtDs (toDs ws) ≤ 60 * zWs ws
  | [] => by simp [toDs, wtDs]
  | w :: ws => by
    have h1 := wt_toD w
    have h2 := wt_toDs ws
    simp only [toDs, wtDs, zWs]; omega
end
structure SgOk (s : Sg) (n : Nat) : Prop where
  sm : smD (sgD s) = true
  dp : depD (sgD s) ≤ n + 1
  wt : wtD (sgD s) ≤ 46 + 7 * n
end Dl

namespace Dl
open PySem L2
section
variable {t u : DTS} {E : DEnds} {ρ : DSt} {G : GH} {Q : DK} {c : DTT} {te ta tb : DTE} {tl tr : DTA}
theorem iSeq (h : t { E with nx := u E } ρ G) : dSeq t u E ρ G := h
theorem iNext (h : E.nx ρ G) : dNext E ρ G := h
theorem iIfS (h : c ρ G fun b G1 => if b = true then t E ρ G1 else u E ρ G1) : dIfS c t u E ρ G := h
theorem iRet (h : te ρ G E.rt) : dRet te E ρ G := h
theorem iDrop (h : te ρ G fun _ G1 => E.nx ρ G1) : dDrop te E ρ G := h
theorem iAsg {g : DTG} (h : te ρ G fun x G1 => g x ρ G1 E.nx) : dAsg te g E ρ G := h
theorem iPar {i j : Nat} (h : tl ρ G fun ds G1 => match ds with
  | [v, w] => E.nx ((ρ.set i (some v)).set j (some w)) G1
  | _ => False) : dPar i j tl E ρ G := h
theorem iGNm {i : Nat} {d : D} {Qg : DSt → GH → Prop} (h : Qg (ρ.set i (some d)) G) : gNm i d ρ G Qg := h
theorem iGTp {n : Nat} {t : DTGs} {ds : List D} {Qg : DSt → GH → Prop} (e : ds.length = n) (h : t ds ρ G Qg) : gTp n t (.tup ds) ρ G Qg := ⟨e, h⟩
theorem iGsCons {t : DTG} {u : DTGs} {d : D} {ds : List D} {Qg : DSt → GH → Prop} (h : t d ρ G fun ρ1 G1 => u ds ρ1 G1 Qg) : gsCons t u (d :: ds) ρ G Qg := h
theorem iGsNil {Qg : DSt → GH → Prop} (h : Qg ρ G) : gsNil [] ρ G Qg := h
theorem iGSb {to ti : DTE} {st : DSet} {d : D} {Qg : DSt → GH → Prop} (h : to ρ G fun o G1 => ti ρ G1 fun i G2 => st o i d G2 fun G3 => Qg ρ G3) : gSb to ti st d ρ G Qg := h
theorem iVar {i : Nat} {d : D} (e : sl ρ i = some d) (h : Q d G) : dVar i ρ G Q := by unfold dVar; rw [e]; exact h
theorem iC {d : D} (h : Q d G) : dC d ρ G Q := h
theorem iNil {Ql : List D → GH → Prop} (h : Ql [] G) : dNil ρ G Ql := h
theorem iCons {Ql : List D → GH → Prop} (h : ta ρ G fun x G1 => tr ρ G1 fun xs G2 => Ql (x :: xs) G2) : dCons ta tr ρ G Ql := h
theorem iTup (h : tl ρ G fun xs G1 => xs.length ≤ sizeLine ∧ Q (.tup xs) G1) : dTup tl ρ G Q := h
theorem iLst (h : tl ρ G fun xs G1 => xs.length ≤ sizeLine ∧ ∀ p, G1 p = none → Q (.ref p) (updG G1 p (.lst xs))) : dLst tl ρ G Q := h
theorem lenOk {P : Prop} {n : Nat} (e : n.ble sizeLine = true) (h : P) : n ≤ sizeLine ∧ P := ⟨Nat.le_of_ble_eq_true e, h⟩
def frzK (Q : DK) : DK := fun d G1 => match d with
  | .ref p => (match G1 p with
    | some (.lst ds) => Q (.lst ds) (dropG G1 p)
    | _ => Q (.ref p) G1)
  | d => Q d G1
theorem iFrz (h : te ρ G (frzK Q)) : dFrz te ρ G Q := h
theorem frzEnd {G : GH} {xs : List D} {Q : DK} (h : Q (.lst xs) G) : ∀ p, G p = none → frzK Q (.ref p) (updG G p (.lst xs)) := by
  intro p hp
  unfold frzK
  dsimp only
  rw [updG_same]
  dsimp only
  rw [dropG_updG hp]
  exact h
theorem frzR {xs : List D} {p : Addr} (e : G p = some (.lst xs)) (h : Q (.lst xs) (dropG G p)) : frzK Q (.ref p) G := by
  unfold frzK
  dsimp only
  rw [e]
  exact h
theorem iOp {r : DR2} (h : ta ρ G fun x G1 => tb ρ G1 fun y G2 => r x y G2 Q) : dOp r ta tb ρ G Q := h
theorem iTst {Qb : Bool → GH → Prop} (h : te ρ G fun d G1 => match d with
  | .bl b => Qb b G1
  | _ => False) : dTst te ρ G Qb := h
theorem iTru {Qb : Bool → GH → Prop} (h : te ρ G fun d G1 => truP G1 d fun b => Qb b G1) : dTru te ρ G Qb := h
theorem iAnd {v w : DTT} {Qb : Bool → GH → Prop} (h : v ρ G fun c G1 => if c = true then w ρ G1 Qb else Qb false G1) : dAnd v w ρ G Qb := h
theorem iOr {v w : DTT} {Qb : Bool → GH → Prop} (h : v ρ G fun c G1 => if c = true then Qb true G1 else w ρ G1 Qb) : dOr v w ρ G Qb := h
theorem iNot {v : DTT} {Qb : Bool → GH → Prop} (h : v ρ G fun c G1 => Qb (!c) G1) : dNot v ρ G Qb := h
theorem iNotV (h : ta ρ G fun x G1 => match x with
  | .bl b => Q (.bl (!b)) G1
  | _ => False) : dNotV ta ρ G Q := h
theorem iIf (h : c ρ G fun b G1 => if b = true then ta ρ G1 Q else tb ρ G1 Q) : dIf c ta tb ρ G Q := h
theorem ifT {A B : Prop} (h : A) : if (true : Bool) = true then A else B := by rw [if_pos rfl]; exact h
theorem ifF {A B : Prop} (h : B) : if (false : Bool) = true then A else B := by rw [if_neg (by decide)]; exact h
theorem ifD {A B : Prop} {p : Prop} [Decidable p] (h1 : p → A) (h2 : ¬ p → B) : if (decide p) = true then A else B := by
  by_cases h : p
  · rw [if_pos (decide_eq_true h)]; exact h1 h
  · rw [if_neg (by simpa using h)]; exact h2 h
theorem iCall {sp : DSp} (h : tl ρ G fun ds G1 => sp ds G1 Q noX) : dCall sp tl ρ G Q := h
theorem iCB {r : DRC} (h : tl ρ G fun ds G1 => r ds G1 Q) : dCB r tl ρ G Q := h
theorem iMt {r : DRM} {to : DTE} (h : to ρ G fun x G1 => lstP G1 x fun _ _ => tl ρ G1 fun ds G2 => r x ds G2 Q) : dMt r to tl ρ G Q := h
theorem iSl {lo hi : DTO} (h : te ρ G fun x G1 => lo ρ G1 fun l G2 => hi ρ G2 fun u G3 => rSl x l u G3 Q) : dSl te lo hi ρ G Q := h
theorem iP {Qo : Option Int → GH → Prop} (h : te ρ G fun d G1 => match d with
  | .int i => Qo (some i) G1
  | _ => False) : dP te ρ G Qo := h
theorem iNoP {Qo : Option Int → GH → Prop} (h : Qo none G) : dNoP ρ G Qo := h
theorem iStar {Ql : List D → GH → Prop} (h : te ρ G fun x G1 => match sqOf G1 x with
  | some l => tr ρ G1 fun r G2 => Ql (l ++ r) G2
  | none => False) : dStar te tr ρ G Ql := h
def getKK (Q : DK) (G : GH) (kvs : List (Key × D)) (k : Key) : Prop := match getK kvs k with
  | some d => Q d G
  | none => False
theorem iDGet (h : ta ρ G fun x G1 => tb ρ G1 fun y G2 => dctP G2 x fun _ kvs => keyP y fun k => getKK Q G2 kvs k) : dDGet ta tb ρ G Q := h
theorem getK_i {kvs : List (Key × D)} {k : Key} {d : D} (e : getK kvs k = some d) (h : Q d G) : getKK Q G kvs k := by unfold getKK; rw [e]; exact h
def isiK (T : String) (Q : DK) : DK := fun d G1 => match tyD G1 d with
  | some s => Q (.bl (subT s T)) G1
  | none => False
theorem iIsi {T : String} (h : te ρ G (isiK T Q)) : dIsi T te ρ G Q := h
theorem isi_i {T : String} {d : D} {s : String} {b : Bool} (e : tyD G d = some s) (e2 : subT s T = b) (h : Q (.bl b) G) : isiK T Q d G := by unfold isiK; rw [e]; dsimp only; rw [e2]; exact h
theorem isi_T {T : String} {d : D} {s : String} (e : tyD G d = some s) (e2 : subT s T = true) (h : Q (.bl true) G) : isiK T Q d G := isi_i e e2 h
theorem isi_F {T : String} {d : D} {s : String} (e : tyD G d = some s) (e2 : subT s T = false) (h : Q (.bl false) G) : isiK T Q d G := isi_i e e2 h
theorem iMatch {cs : List (Option Str × DTS)} (h : te ρ G fun d G1 => dCases cs d E ρ G1) : dMatch te cs E ρ G := h
theorem iFor {wi : DTI} {g : DTG} (h : wi ρ G fun items ok G1 => dForGo ok g t items E ρ G1) : dFor wi g t E ρ G := h
theorem iISq {Qi : List D → (GH → Prop) → GH → Prop} (h : te ρ G fun d G1 => match d with
  | .tup ds => Qi ds okAll G1
  | .lst ds => Qi ds okAll G1
  | .ref a => (match G1 a with
    | some (.lst ds) => Qi ds (fun G => G a = some (.lst ds)) G1
    | _ => False)
  | _ => False) : iSq te ρ G Qi := h
theorem rIx_i {x d : D} {ds : List D} {i : Int} (e : sqOf G x = some ds) (e2 : atI ds i = some d) (h : Q d G) : rIx x (.int i) G Q := by
  unfold rIx; dsimp only; rw [e]; dsimp only; rw [e2]; exact h
theorem eq_ss {a b : Str} (h : Q (.bl (decide (a = b))) G) : rCmp id (.str a) (.str b) G Q := h
theorem eq_ii {a b : Int} (h : Q (.bl (decide (a = b))) G) : rCmp id (.int a) (.int b) G Q := h
theorem ne_ii {a b : Int} (h : Q (.bl (!decide (a = b))) G) : rCmp not (.int a) (.int b) G Q := h
theorem eq_tt {a b : List D} (h1 : okD (.tup a)) (h2 : okD (.tup b)) (h : Q (.bl (eqvD (.tup a) (.tup b))) G) : rCmp id (.tup a) (.tup b) G Q := ⟨h1, h2, h⟩
theorem ne_tt {a b : List D} (h1 : okD (.tup a)) (h2 : okD (.tup b)) (h : Q (.bl (!eqvD (.tup a) (.tup b))) G) : rCmp not (.tup a) (.tup b) G Q := ⟨h1, h2, h⟩
theorem eq_ll {a b : List D} (h1 : okD (.lst a)) (h2 : okD (.lst b)) (h : Q (.bl (eqvD (.lst a) (.lst b))) G) : rCmp id (.lst a) (.lst b) G Q := ⟨h1, h2, h⟩
theorem ne_ll {a b : List D} (h1 : okD (.lst a)) (h2 : okD (.lst b)) (h : Q (.bl (!eqvD (.lst a) (.lst b))) G) : rCmp not (.lst a) (.lst b) G Q := ⟨h1, h2, h⟩
theorem eq_strT {a : Str} (h : Q (.bl true) G) : rCmp id (.str a) (.str a) G Q := by
  have : Q (.bl (decide (a = a))) G := by rw [decide_eq_true rfl]; exact h
  exact this
theorem eq_strF {a b : String} (e : (a == b) = false) (h : Q (.bl false) G) : rCmp id (.str (Str.ofString a)) (.str (Str.ofString b)) G Q := by
  have : Q (.bl (decide (Str.ofString a = Str.ofString b))) G := by rw [decide_eq_false (by rw [ofString_inj]; simpa using e)]; exact h
  exact this
theorem ne_strT {a : Str} (h : Q (.bl false) G) : rCmp not (.str a) (.str a) G Q := by
  have : Q (.bl (!decide (a = a))) G := by rw [decide_eq_true rfl]; exact h
  exact this
theorem ne_strF {a b : String} (e : (a == b) = false) (h : Q (.bl true) G) : rCmp not (.str (Str.ofString a)) (.str (Str.ofString b)) G Q := by
  have : Q (.bl (!decide (Str.ofString a = Str.ofString b))) G := by rw [decide_eq_false (by rw [ofString_inj]; simpa using e)]; exact h
  exact this
theorem caT {a : Str} {t : DTS} {cs : List (Option Str × DTS)} (h : t E ρ G) : dCases ((some a, t) :: cs) (.str a) E ρ G := by
  show (if a = a then t E ρ G else _)
  rw [if_pos rfl]; exact h
theorem caF {a b : String} {t : DTS} {cs : List (Option Str × DTS)} (e : (b == a) = false) (h : dCases cs (.str (Str.ofString b)) E ρ G) : dCases ((some (Str.ofString a), t) :: cs) (.str (Str.ofString b)) E ρ G := by
  show (if Str.ofString b = Str.ofString a then t E ρ G else _)
  rw [if_neg (by rw [ofString_inj]; simpa using e)]; exact h
theorem caN {t : DTS} {cs : List (Option Str × DTS)} {d : D} (h : t E ρ G) : dCases ((none, t) :: cs) d E ρ G := h
theorem add_ii {i j : Int} (h : Q (.int (i + j)) G) : rAdd (.int i) (.int j) G Q := h
theorem add_tt {a b : List D} (e : a.length + b.length ≤ sizeLine) (h : Q (.tup (a ++ b)) G) : rAdd (.tup a) (.tup b) G Q := ⟨e, h⟩
theorem slT {ds : List D} {lo hi : Option Int} (h : Q (.tup (cutD ds lo hi)) G) : rSl (.tup ds) lo hi G Q := h
theorem slS {ns : List Int} {lo hi : Option Int} (h : ∀ p, G p = none → Q (.ref p) (updG G p (.lst (cutD (ns.map D.int) lo hi)))) : rSl (.scr ns) lo hi G Q := h
theorem int2 {C : Int → Int → Prop} {f : Int → Int → D} {i j : Int} (e : C i j) (h : Q (f i j) G) : rInt C f (.int i) (.int j) G Q := ⟨e, h⟩
theorem int0 {f : Int → Int → D} {i j : Int} (h : Q (f i j) G) : rInt0 f (.int i) (.int j) G Q := h
theorem mul_ii {i j : Int} (e : CMul i j) (h : Q (.int (i * j)) G) : rMul (.int i) (.int j) G Q := ⟨e, h⟩
theorem mul_ti {a : List D} {k : Int} (e1 : -(2 ^ 63) ≤ k) (e2 : k ≤ 1000) (e3 : a.length ≤ 1000) (h : Q (.tup (List.replicate k.toNat a).flatten) G) : rMul (.tup a) (.int k) G Q := ⟨e1, e2, .inl e3, h⟩
theorem len_t {l : List D} (h : Q (.int l.length) G) : rLen [.tup l] G Q := h
theorem len_l {l : List D} (h : Q (.int l.length) G) : rLen [.lst l] G Q := h
theorem len_r {l : List D} {a : Addr} (e : G a = some (.lst l)) (h : Q (.int l.length) G) : rLen [.ref a] G Q := by unfold rLen arg1; dsimp only; rw [e]; exact h
theorem tupC_l {l : List D} (h : Q (.tup l) G) : rTupC [.lst l] G Q := h
theorem tupC_r {l : List D} {a : Addr} (e : G a = some (.lst l)) (h : Q (.tup l) G) : rTupC [.ref a] G Q := by unfold rTupC arg1 sqOf; dsimp only; rw [e]; exact h
theorem lstC_t {l : List D} (h : ∀ p, G p = none → Q (.ref p) (updG G p (.lst l))) : rLstC [.tup l] G Q := h
theorem lstC_l {l : List D} (h : ∀ p, G p = none → Q (.ref p) (updG G p (.lst l))) : rLstC [.lst l] G Q := h
theorem intC_i {i : Int} (h : Q (.int i) G) : rIntC [.int i] G Q := h
theorem intC_b {b : Bool} (h : Q (.int (if b then 1 else 0)) G) : rIntC [.bl b] G Q := h
theorem max2_ii {i j : Int} (h : Q (.int (if j > i then j else i)) G) : rMax2 [.int i, .int j] G Q := h
theorem min2_ii {i j : Int} (h : Q (.int (if j < i then j else i)) G) : rMin2 [.int i, .int j] G Q := h
theorem repr_i {x : D} (e : Shw (vw G x)) (h : Q (.str (shD (vw G x))) G) : rRepr [x] G Q := ⟨e, h⟩
theorem lstP_i {a : Addr} {l : List D} {P : Addr → List D → Prop} (e : G a = some (.lst l)) (h : P a l) : lstP G (.ref a) P := by unfold lstP; dsimp only; rw [e]; exact h
theorem dctP_i {a : Addr} {l : List (Key × D)} {P : Addr → List (Key × D) → Prop} (e : G a = some (.dct l)) (h : P a l) : dctP G (.ref a) P := by unfold dctP; dsimp only; rw [e]; exact h
theorem keyP_s {x : Str} {P : Key → Prop} (h : P (.inr x)) : keyP (.str x) P := h
theorem app_i {a : Addr} {l : List D} {d : D} (e : G a = some (.lst l)) (z : l.length < sizeLine) (h : Q .non (updG G a (.lst (l ++ [d])))) : mAppend (.ref a) [d] G Q := lstP_i e ⟨z, h⟩
theorem ext_i {a : Addr} {l m : List D} {d : D} (e : G a = some (.lst l)) (e2 : sqOf G d = some m) (z : l.length + m.length ≤ sizeLine) (h : Q .non (updG G a (.lst (l ++ m)))) : mExtend (.ref a) [d] G Q := by
  refine lstP_i e ?_
  unfold arg1
  dsimp only
  rw [e2]
  exact ⟨z, h⟩
theorem truB {b : Bool} {P : Bool → Prop} (h : P b) : truP G (.bl b) P := h
end
end Dl

namespace Dl
open PySem L2
theorem lc_map {α : Type} {ok : GH → Prop} {ct : CT} {te : DTE} {ρ : DSt} {p : Addr} {Q : DK} {g h : α → D} {xs : List α} {G : GH} (hp : G p = none) (hok : ∀ G, ok G) (hl : xs.length ≤ sizeLine) (hf : ∀ x ∈ xs, PureE te ct ρ (g x) (h x))
    (hq : ∀ G', Grow G G' → G' p = some (.lst (xs.map h)) → Q (.ref p) G') : dLcGo ok ct dYes te ρ p (xs.map g) (updG G p (.lst [])) Q := by
  refine dLcGo_of (I := fun rest acc G' => ∃ rs, rest = rs.map g ∧ acc ++ rs.map h = xs.map h ∧ (∀ x ∈ rs, x ∈ xs) ∧ Grow G G' ∧ G' p = some (.lst acc)) ?_ ?_ _ [] _ ⟨xs, rfl, rfl, fun _ h => h, Grow.upd hp, updG_same⟩
  · rintro acc G' ⟨rs, e0, e, -, gg, ep⟩
    cases rs with
    | cons => cases e0
    | nil =>
      refine ⟨hok _, hq _ gg ?_⟩
      rw [← e, List.map_nil, List.append_nil]
      exact ep
  · rintro x rest acc G' ⟨rs, e0, e, m, gg, ep⟩
    cases rs with
    | nil => cases e0
    | cons r rs =>
      injection e0 with e1 e2
      subst e1 e2
      obtain ⟨ρ2, e2, k⟩ := hf r (m r (List.mem_cons_self ..))
      refine ⟨hok _, ρ2, e2, fun K hK => k G' K fun G4 g4 => ?_⟩
      refine hK _ G4 (g4 _ _ ep) ?_ ⟨rs, rfl, ?_, fun y hy => m y (List.mem_cons_of_mem _ hy), Grow.upd2 hp (gg.trans g4), updG_same⟩
      · have := congrArg List.length e
        simp at this
        omega
      · rw [← e]; simp
theorem lcF {α : Type} (xs : List α) (g h : α → D) {wi : DTI} {ct : CT} {te : DTE} {ρ : DSt} {vs : List Nat} {G : GH} {Q : DK} (hw : ∀ P : List D → (GH → Prop) → GH → Prop, (∀ ok G1, (∀ G, ok G) → Grow G G1 → P (xs.map g) ok G1) → wi ρ G P)
    (hl : xs.length ≤ sizeLine) (hf : ∀ x ∈ xs, PureE te ct (wipeD ρ vs) (g x) (h x)) (hq : ∀ G', Grow G G' → Q (.lst (xs.map h)) G') : dLc wi ct dYes te vs ρ G (frzK Q) := by
  unfold dLc
  refine hw _ ?_
  intro ok G1 hok g1 p hp
  refine lc_map hp hok hl hf ?_
  intro G' gg e
  exact frzR e (hq _ (g1.trans (Grow.drop hp gg)))
section
variable {E : DEnds} {ρ : DSt} {G : GH} {Q : DK} {te ta tb : DTE} {tl : DTA} {Qi : List D → (GH → Prop) → GH → Prop}
theorem iIRg1 (h : tl ρ G fun ds G1 => match ds with
  | [.int j] => -(2 ^ 62) ≤ j ∧ j < 2 ^ 62 ∧ Qi (rngD 0 j.toNat) okAll G1
  | _ => False) : iRg1 tl ρ G Qi := h
theorem iIRg2 (h : tl ρ G fun ds G1 => match ds with
  | [.int i, .int j] => (-(2 ^ 62) ≤ i ∧ i < 2 ^ 62 ∧ -(2 ^ 62) ≤ j ∧ j < 2 ^ 62) ∧ Qi (rngD i (j - i).toNat) okAll G1
  | _ => False) : iRg2 tl ρ G Qi := h
theorem iIEnT (h : te ρ G fun d G1 => match d with
  | .tup ds => Qi (enumD ds) okAll G1
  | _ => False) : iEnT te ρ G Qi := h
theorem add_llb {a b : List D} (e : (a.length + b.length).ble sizeLine = true) (h : ∀ p, G p = none → Q (.ref p) (updG G p (.lst (a ++ b)))) : rAdd (.lst a) (.lst b) G Q := ⟨Nat.le_of_ble_eq_true e, h⟩
theorem add_ttb {a b : List D} (e : (a.length + b.length).ble sizeLine = true) (h : Q (.tup (a ++ b)) G) : rAdd (.tup a) (.tup b) G Q := ⟨Nat.le_of_ble_eq_true e, h⟩
end
@[simp] theorem rep_one {α : Type} (k : Nat) (x : α) : (List.replicate k [x]).flatten = List.replicate k x := by
  induction k with
  | zero => rfl
  | succ k ih => rw [List.replicate_succ, List.flatten_cons, ih, List.replicate_succ]; rfl
theorem rngD_map (lo : Int) (n : Nat) : rngD lo n = (List.range n).map fun i => D.int (lo + (i : Nat)) := rfl
theorem enumD_map (ds : List D) : enumD ds = (List.range ds.length).map fun i => D.tup [.int (i : Nat), ds.getD i .non] := rfl
end Dl

namespace Dl
open PySem L2
section
variable {E : DEnds} {ρ : DSt} {G : GH} {Q : DK} {te ta tb : DTE} {tl : DTA} {Qi : List D → (GH → Prop) → GH → Prop}
theorem inn_T {x y : D} {ds : List D} (e : sqOf G y = some ds) (h1 : flatD x = true) (h2 : ds.all flatD = true) (e3 : inD x ds = true) (h : Q (.bl true) G) : rInn id x y G Q := by
  unfold rInn; rw [e]; exact ⟨h1, h2, by rw [e3]; exact h⟩
theorem inn_F {x y : D} {ds : List D} (e : sqOf G y = some ds) (h1 : flatD x = true) (h2 : ds.all flatD = true) (e3 : inD x ds = false) (h : Q (.bl false) G) : rInn id x y G Q := by
  unfold rInn; rw [e]; exact ⟨h1, h2, by rw [e3]; exact h⟩
theorem inn_i {x y : D} {ds : List D} (e : sqOf G y = some ds) (h1 : flatD x = true) (h2 : ds.all flatD = true) (h : Q (.bl (inD x ds)) G) : rInn id x y G Q := by
  unfold rInn; rw [e]; exact ⟨h1, h2, h⟩
def dispK (Q : DK) (p : Addr) (ps : List (D × D)) (G2 : GH) : Prop := G2 p = some (.dct []) ∧ match keysD ps with
  | some kvs => kvs.length ≤ 15 ∧ Q (.ref p) (updG G2 p (.dct (mergeD [] kvs)))
  | none => False
theorem iDisp {trs : List (DTE × DTE)} (h : ∀ p, G p = none → dPairs trs ρ (updG G p (.dct [])) (dispK Q p)) : dDisp trs ρ G Q := h
theorem iPsN {Qp : List (D × D) → GH → Prop} (h : Qp [] G) : dPairs [] ρ G Qp := h
theorem iPsC {Qp : List (D × D) → GH → Prop} {r : List (DTE × DTE)} (h : ta ρ G fun x G1 => tb ρ G1 fun y G2 => dPairs r ρ G2 fun ps G3 => Qp ((x, y) :: ps) G3) : dPairs ((ta, tb) :: r) ρ G Qp := h
theorem dispEnd {p : Addr} {ps : List (D × D)} {kvs : List (Key × D)} (e : G p = some (.dct [])) (e2 : keysD ps = some kvs) (hl : kvs.length.ble 15 = true) (h : Q (.ref p) (updG G p (.dct (mergeD [] kvs)))) : dispK Q p ps G := by
  refine ⟨e, ?_⟩
  rw [e2]
  exact ⟨Nat.le_of_ble_eq_true hl, h⟩
end
end Dl

namespace Dl
open PySem L2
theorem seqC {t u : DTS} {E : DEnds} {ρ : DSt} {G : GH} (P : DSt → GH → Prop) (h1 : ∀ K : DSt → GH → Prop, (∀ ρ G, P ρ G → K ρ G) → t { E with nx := K } ρ G) (h2 : ∀ ρ G, P ρ G → u E ρ G) : dSeq t u E ρ G := h1 _ h2
theorem ifDT {A B p : Prop} [Decidable p] (h : p) (a : A) : if (decide p) = true then A else B := by rw [if_pos (decide_eq_true h)]; exact a
theorem ifDF {A B p : Prop} [Decidable p] (h : ¬ p) (b : B) : if (decide p) = true then A else B := by rw [if_neg (by simpa using h)]; exact b
theorem andT {A B : Prop} {p : Prop} [Decidable p] (h : p) (a : A) : (match D.bl (decide p) with
  | .bl true => A
  | .bl false => B
  | _ => False) := by rw [decide_eq_true h]; exact a
def andVK (tb : DTE) (ρ : DSt) (Q : DK) : DK := fun x G1 => match x with
  | .bl true => tb ρ G1 Q
  | .bl false => Q (.bl false) G1
  | _ => False
theorem iAndVK {ta tb : DTE} {ρ : DSt} {G : GH} {Q : DK} (h : ta ρ G (andVK tb ρ Q)) : dAndV ta tb ρ G Q := h
theorem andVT {tb : DTE} {ρ : DSt} {G : GH} {Q : DK} (h : tb ρ G Q) : andVK tb ρ Q (.bl true) G := h
theorem andVF {tb : DTE} {ρ : DSt} {G : GH} {Q : DK} (h : Q (.bl false) G) : andVK tb ρ Q (.bl false) G := h
theorem andVDT {tb : DTE} {ρ : DSt} {G : GH} {Q : DK} {p : Prop} [Decidable p] (h : p) (a : tb ρ G Q) : andVK tb ρ Q (.bl (decide p)) G := by rw [decide_eq_true h]; exact a
theorem andVDF {tb : DTE} {ρ : DSt} {G : GH} {Q : DK} {p : Prop} [Decidable p] (h : ¬ p) (a : Q (.bl false) G) : andVK tb ρ Q (.bl (decide p)) G := by rw [decide_eq_false h]; exact a
theorem rIx_r {a : Addr} {l : List D} {i : Int} {d : D} {G : GH} {Q : DK} (e : G a = some (.lst l)) (e2 : atI l i = some d) (h : Q d G) : rIx (.ref a) (.int i) G Q := rIx_i (ds := l) (by unfold sqOf; dsimp only; rw [e]) e2 h
theorem ifNT {A B : Prop} (h : B) : if (!true) = true then A else B := by rw [if_neg (by decide)]; exact h
theorem ifNF {A B : Prop} (h : A) : if (!false) = true then A else B := by rw [if_pos (by decide)]; exact h
theorem callee0 {P : Program} {w : World} {K : PySem.W.Frag} {mg : Str → Option Value} {base : Heap} {x qual : Str} {params : Arguments} {body : List Stmt} {scope : Scope} {f : Addr} {fd : FuncData} {ps : List Str} {sp : DSp}
    (F : FunD K x qual params body scope [] [] f fd) (hm : mg x = some (.ref f)) (h : ∀ ds G Q E, ¬ sp ds G Q E)
    (b1 : ∀ (kV doc pm : Value) (an : Option Addr) (cdv ct : Value) (us : List Value), us.length = ps.length → bindArgs (PySem.W.fnOf x qual params body scope .none kV doc pm an cdv ct) ⟨us, []⟩ = pure (ps.zip us))
    (b2 : ∀ (kV doc pm : Value) (an : Option Addr) (cdv ct : Value) (us : List Value), us.length = ps.length → bindArgs (PySem.W.fnOf x qual params body scope .none kV doc pm an cdv ct) ⟨[], ps.zip us⟩ = pure (ps.zip us)) : Callee P w K mg base 0 x ps sp :=
  callee_of F hm ⟨fun _ _ _ _ ⟨_, _, _, _, _, _, q, _⟩ => (h _ _ _ _ q).elim, fun _ _ _ _ _ _ _ _ _ _ _ _ _ _ ⟨_, _, _, _, _, _, q, _⟩ => (h _ _ _ _ q).elim⟩ b1 b2
end Dl

namespace Dl
open PySem L2
def pick1 {α : Type} (us its ws : List α) (q : Nat × Nat) : Option α := if q.1 = 0 then us[q.2]? else if q.1 = 1 then its[q.2]? else ws[q.2]?
def pick {α : Type} (src : List (Nat × Nat)) (us its ws : List α) : List α := match src with
  | [] => []
  | q :: r => (pick1 us its ws q).toList ++ pick r us its ws
theorem at_vals {a : List V} {b : List Value} (h : Vals a b) (j : Nat) : Vals a[j]?.toList b[j]?.toList := by
  cases e : a[j]? with
  | none => rw [h.none_of e]; exact .nil
  | some v => obtain ⟨u, e2, r⟩ := h.get e; rw [e2]; exact .cons r .nil
theorem pick_vals {xs dv zs : List V} {us its ws : List Value} (h1 : Vals xs us) (h2 : Vals dv its) (h3 : Vals zs ws) : ∀ {src : List (Nat × Nat)}, Vals (pick src xs dv zs) (pick src us its ws)
  | [] => .nil
  | q :: r => by
    unfold pick
    refine Vals.append ?_ (pick_vals h1 h2 h3)
    unfold pick1
    split
    · exact at_vals h1 _
    · split
      · exact at_vals h2 _
      · exact at_vals h3 _
structure CalleeG (P : Program) (w : World) (K : PySem.W.Frag) (mg : Str → Option Value) (base : Heap) (k : Nat) (x : Str) (n : Nat) (ks : List Str) (src : List (Nat × Nat)) (dv : List D) (sp : DSp) : Prop where
  ex : ∃ f fd ps, DFn P w K mg base k f fd ps sp ∧ mg x = some (.ref f) ∧ PySem.W.keepIn K (.ref f) = true ∧ ∃ (its : List Value) (dvs : List V), Vals dvs its ∧ (∀ G H, RepL K G H dv dvs) ∧
    ∀ (s : Shared) (us ws : List Value), K.In s.heap → us.length = n → ws.length = ks.length → BindsTo s fd ⟨us, ks.zip ws⟩ (ps.zip (pick src us its ws))
@[simp] def dCallG (sp : DSp) (n m : Nat) (src : List (Nat × Nat)) (dv : List D) (ta tk : DTA) : DTE := fun ρ G Q => ta ρ G fun ds G1 => tk ρ G1 fun es G2 => ds.length = n ∧ es.length = m ∧ sp (pick src ds dv es) G2 Q noX
section
variable {X : Cx} {k n : Nat} {x : Str} {ks : List Str} {src : List (Nat × Nat)} {dv : List D} {sp : DSp} {p pos : Pos} {e : Expr} {es : List Expr} {ta tk : DTA} {kws : List Keyword}
end
section
variable {P : Program} {w : World} {K : PySem.W.Frag} {mg : Str → Option Value} {base : Heap} {k n : Nat} {x qual : Str} {params : Arguments} {body : List Stmt} {scope : Scope} {f : Addr} {fd : FuncData} {ps ks : List Str} {src : List (Nat × Nat)} {sp : DSp}
end
end Dl

namespace Dl
open PySem L2 PyProof.Rows LamX

structure XCalleeG (P : Program) (w : World) (K : PySem.W.Frag) (mg : Str → Option Value) (base : Heap) (k : Nat) (x : Str) (n : Nat) (ks : List Str) (src : List (Nat × Nat)) (dv : List D) (sp : DSp) : Prop where
  ex : ∃ f fd ps, XFn P w K mg base k f fd ps sp ∧ mg x = some (.ref f) ∧ PySem.W.keepIn K (.ref f) = true ∧ ∃ (its : List Value) (dvs : List V), Vals dvs its ∧ (∀ G H, RepL K G H dv dvs) ∧
    ∀ (s : Shared) (us ws : List Value), K.In s.heap → us.length = n → ws.length = ks.length → BindsTo s fd ⟨us, ks.zip ws⟩ (ps.zip (pick src us its ws))
section
variable {X : Cx} {W : WX} {k n : Nat} {x : Str} {ks : List Str} {src : List (Nat × Nat)} {dv : List D} {sp : DSp} {p pos : Pos} {e : Expr} {es : List Expr} {ta tk : DTA} {kws : List Keyword}
theorem xcg_run {f : Addr} {fd : FuncData} {ps : List Str} {its : List Value} {dvs : List V} (F : XFn X.prog X.w X.K X.mg X.base k f fd ps sp) (tk : Takes X W) (hr : Room k X.A) (hgd : X.A.guards = some []) (hv : Vals dvs its) (hd : ∀ G H, RepL X.K G H dv dvs)
    (hb : ∀ (s : Shared) (us ws : List Value), X.K.In s.heap → us.length = n → ws.length = ks.length → BindsTo s fd ⟨us, ks.zip ws⟩ (ps.zip (pick src us its ws))) {pins : List (Addr × Obj)} {σ : L2.St} {H : Hp} {s : Shared} {Q : VK} {us ws : List Value} {vs zs : List V}
    (I : Inv X pins σ H s) (r : Vals vs us) (rz : Vals zs ws) (l1 : vs.length = n) (l2 : zs.length = ks.length) (h : toSp X.K sp (pick src vs dvs zs) H Q (WE W σ)) : wpAny (model X.prog X.w) X.A (call (.ref f) us (ks.zip ws)) (EP X pins σ Q) X.xe s := by
  refine wpAny_call (codeAny_mono (F.go X.A X.stack s H ⟨us, ks.zip ws⟩ _ _ Q (WE W σ) hr hgd I.env0 (hb s us ws I.kIn (r.length.symm.trans l1) (rz.length.symm.trans l2)) (pick_vals r hv rz) h) ?_)
  intro res s2 hq
  match res, hq with
  | .error er, hq => exact passAt tk σ pins H s er s2 I hq
  | .ok (.ret u), hq => exact I.after hq
end
section
variable {P : Program} {w : World} {K : PySem.W.Frag} {mg : Str → Option Value} {base : Heap} {k n : Nat} {x qual : Str} {params : Arguments} {body : List Stmt} {scope : Scope} {f : Addr} {fd : FuncData} {ps ks : List Str} {src : List (Nat × Nat)} {sp sp' : DSp}
theorem xcallee_of (F : FunD K x qual params body scope [] [] f fd) (hm : mg x = some (.ref f)) (D : XFn P w K mg base k f fd ps sp)
    (b1 : ∀ (kV doc pm : Value) (an : Option Addr) (cdv ct : Value) (us : List Value), us.length = ps.length → bindArgs (PySem.W.fnOf x qual params body scope .none kV doc pm an cdv ct) ⟨us, []⟩ = pure (ps.zip us))
    (b2 : ∀ (kV doc pm : Value) (an : Option Addr) (cdv ct : Value) (us : List Value), us.length = ps.length → bindArgs (PySem.W.fnOf x qual params body scope .none kV doc pm an cdv ct) ⟨[], ps.zip us⟩ = pure (ps.zip us)) : XCallee P w K mg base k x ps sp := by
  refine ⟨f, fd, D, hm, F.kp, F.bindsN b1, ⟨?_, fun r => r, fun r => r⟩⟩
  intro s ws hl
  obtain ⟨oc, od, dV, kV, doc, pm, an, cdv, ct, osl, rfl, lk, hcd, hD, hK⟩ := F.ex
  rcases hD with ⟨_, rfl⟩ | ⟨e, _⟩
  · exact .of_eq (b2 kV doc pm an cdv ct ws hl)
  · exact absurd rfl e
theorem XFn.calm (F : XFn P w K mg base k f fd ps sp) (h : ∀ ds G Q E, sp' ds G Q E → sp ds G Q noX) : DFn P w K mg base k f fd ps sp' := by
  refine ⟨fun xs H Q E hs => ?_, fun A out st H ar us xs Q E hr hg he hb hv hs => ?_⟩
  · obtain ⟨ds, G, q, e, rl, g, h1, _⟩ := hs
    exact F.arity xs H (fun _ _ => True) (fun _ _ _ => True) ⟨ds, G, q, noX, rl, g, h _ _ _ _ h1, fun _ _ _ _ _ _ _ _ => trivial, fun _ _ _ _ _ _ _ _ _ => trivial⟩
  · obtain ⟨ds, G, q, e, rl, g, h1, kq, ke⟩ := hs
    refine codeAny_mono (F.go A out st H ar us xs Q (fun _ _ _ => False) hr hg he hb hv ⟨ds, G, q, noX, rl, g, h _ _ _ _ h1, kq, fun _ _ _ _ _ _ _ _ z => z.elim⟩) fun r s' hq => ?_
    cases r with
    | error er =>
      obtain ⟨_, _, _, _, _, _, _, _, _, _, _, _, z⟩ := (show L2.CX P w out H st (fun _ _ _ => False) er s' from hq)
      exact z.elim
    | ok fl => cases fl <;> exact hq
theorem XCallee.calm (C : XCallee P w K mg base k x ps sp) (h : ∀ ds G Q E, sp' ds G Q E → sp ds G Q noX) : Callee P w K mg base k x ps sp' := by
  obtain ⟨f, fd, F, a⟩ := C.ex
  exact ⟨f, fd, XFn.calm F h, a⟩
end
section
variable {X : Cx} {W : WX} {k : Nat} {x : Str} {ps : List Str} {sp : DSp} {p pos : Pos} {ta : DTA} {kws : List Keyword}
end

section
variable {P : Program} {w : World} {K : PySem.W.Frag} {mg : Str → Option Value} {base : Heap} {x qual : Str} {params : Arguments} {body : List Stmt} {scope : Scope} {dvs : List V} {kws : List (Str × V)} {f c : Addr} {fd : FuncData} {N ps : List Str} {k : Nat} {sp : DSp}
theorem gfn_ofC {CX : CXT} {sp : Sp} (F : FunD K x qual params body scope dvs kws f fd) (S : FnScope N ps scope) (len : ∀ xs H Q E, sp xs H Q E → xs.length = ps.length)
    (hbody : ∀ (cdv : Value) (A : Around) (out : List Env) (st : Shared) (H : Hp) (xs : List V) (Q : VK) (E : XK), fd.code = cdv → Room k (A.deeper (PyProof.Rows.envOfC qual scope st.heap.objs.size f cdv)) → (A.deeper (PyProof.Rows.envOfC qual scope st.heap.objs.size f cdv)).guards = some [] →
      sp xs H Q E → ∃ t, PSs (cxOf CX P w K mg base N qual scope f cdv A out st H E) body t ∧ t { nx := fun _ H' => Q .non H', rt := Q } (L2.start N xs) H) : GFn P w K mg base CX (k + 1) f fd ps sp := by
  obtain ⟨oc, od, dV, kV, doc, pm, an, cdv, ct, osl, hfd, lk, hcd, _, _⟩ := F.ex
  subst hfd
  constructor
  · exact len
  intro A out st H ar us xs Q E hr hgd e0 hb rl hsp
  have kin : K.In st.heap := PySem.W.Frag.In.keeps e0.mod.kin (fun b o e => (e0.bs b o e).1)
  have nl : st.heap.NoLimit := Heap.NoLimit.keeps e0.mod.nolimit (fun b o e => (e0.bs b o e).1)
  have kinds : ∀ y ∈ ps.zip us, scope.names.lookup y.1 = some .local ∨ (scope.names.lookup y.1 = some .cell ∧ ((cellsFrom (st.heap.objs.size + 1) scope.names []).lookup y.1).isSome = true) := by
    rintro ⟨n, v⟩ hy
    cases S.par n (List.of_mem_zip hy).1 with
    | inl q => exact .inl q
    | inr q => exact .inr ⟨q, PySem.W.cellsFrom_some _ _ _ (.inl q)⟩
  refine PySem.codeAny_call_function hr.depth (kin _ _ lk) rfl S.co S.gen rfl (PySem.W.codeRec_of kin hcd) ?_
  refine hb _ _ _ _ ?_
  refine wpAny_newFunctionEnv_cells S.kind kinds ?_
  intro env he s1 ic
  subst he
  refine ⟨nl.keeps ic.toInCall.keep, PySem.codeAny_func ?_⟩
  have gd : (A.deeper (PyProof.Rows.envOfC qual scope st.heap.objs.size f cdv)).guards = some [] := hgd
  obtain ⟨t, ht, hq⟩ := hbody cdv A out st H xs Q E rfl (hr.deeper _) gd hsp
  have inv := inv_start (CX := CX) (E := E) S hr.hd e0 (len _ _ _ _ hsp) rl ic
  refine wpAny_mono (ht.run [] s1 _ H _ inv hq) ?_ (fun _ _ z => z)
  intro fl s2 hs
  cases fl with
  | ret u => obtain ⟨v, σ2, H2, J, rv, q⟩ := hs; exact ⟨v, H2, J.os, J.bare, J.base, J.hok, rv, q⟩
  | next => obtain ⟨σ2, H2, J, q⟩ := hs; exact ⟨V.non, H2, J.os, J.bare, J.base, J.hok, rfl, q⟩
  | brk => obtain ⟨_, _, _, q⟩ := hs; exact q.elim
  | cont => obtain ⟨_, _, _, q⟩ := hs; exact q.elim
theorem dfn_ofL {β : Type} {t : β → DTS} (F : FunD K x qual params body scope dvs kws f fd) (hc : fd.code = .ref c) (S : FnScope N ps scope) (len : ∀ ds G Q E, sp ds G Q E → ds.length = ps.length)
    (hbody : ∀ (A : Around) (out : List Env) (st : Shared) (H : Hp) (E : XK), Room k (A.deeper (PyProof.Rows.envOfC qual scope st.heap.objs.size f (.ref c))) → (A.deeper (PyProof.Rows.envOfC qual scope st.heap.objs.size f (.ref c))).guards = some [] →
      ∃ b : β, DSs (cxOf CX0 P w K mg base N qual scope f (.ref c) A out st H E).nox body (t b))
    (ok : ∀ b ds G Q E, sp ds G Q E → t b { nx := fun _ G' => Q .non G', rt := Q } (startD N.length ds) G) : DFn P w K mg base (k + 1) f fd ps sp := by
  refine gfn_ofC F S (fun vs H Q E h => ?_) fun cdv A outer s H vs Q E hcd hr hg h => ?_
  · obtain ⟨ds, G, q, e, rl, _, h, _⟩ := h
    rw [rl.length]
    exact len _ _ _ _ h
  · rw [hc] at hcd
    subst hcd
    obtain ⟨b, hb⟩ := hbody A outer s H E hr hg
    refine ⟨_, PSs.nox hb, ?_⟩
    obtain ⟨ds, G, q, e, rl, g, h, kq, ke⟩ := h
    refine ⟨startD N.length ds, G, _, start_rel rl g, ok b ds G q e h, ?_, ?_, ?_, ?_⟩
    · exact fun σ' ρ' H' G' e' r' h' => kq .non .non H' G' e' r'.gok (by unfold RepV; rfl) h'
    · exact fun v d H' G' e' g' v' h' => kq v d H' G' e' g' v' h'
    · exact fun _ _ _ _ _ _ z => z.elim
    · exact fun _ _ _ _ _ _ z => z.elim
end
def dHearL (P : Addr) (q : Str) (rH : Act → DTS) (n : Nat) (t : XTE) : DTE := fun ρ G Q => G P = some (.tab q) ∧
  ∀ φ n1 H1, rH ⟨q, φ, n1, H1, fun E' G' Q' => t (fun x _ G2 => E' x G2) ρ G' Q'⟩ { nx := fun _ G' => Q .non G', rt := Q } (some (.fn q φ n1 H1) :: List.replicate (n - 1) none) G
section
variable {X : Cx} {k n : Nat} {x q : Str} {rH : Act → DTS} {p lpos pos : Pos} {c T : Addr} {params : Arguments} {body : Expr} {scope : Scope} {t : XTE}
theorem de_hearL (C : Hearer X.prog X.w X.K X.mg X.base k x rH n) (TB : TabB X.base X.mg c T) (hcode : X.env.code = .ref c) (hq : X.env.qual ++ "<lambda>" = q) (hr : Room (k + 2) X.A) (hgd : X.A.guards = some []) (hg : Gl X x)
    (hdef : defaultsOf params X.env = ([], [])) (LS : LamS X.env.scope scope) (hbind : ∀ (cl : List (Str × Addr)) (pm cv ctv : Value), bindArgs (PySem.W.kla_fn "<lambda>" (X.env.qual ++ "<lambda>") params body scope cl pm cv ctv) ⟨[], []⟩ = pure [])
    (hbody : ∀ (A : Around) (outer : List Env) (s : Shared) (H : Hp) (E : XK) (f c' : Addr), Room k (A.deeper (lamEnv X scope s.heap.objs.size f c')) → (A.deeper (lamEnv X scope s.heap.objs.size f c')).guards = some [] →
      Takes (lamCx X A outer s H E scope f c') (fun c d _ H' => E c d H') → XE1 (lamCx X A outer s H E scope f c') (fun c d _ H' => E c d H') body t)
    (hdb : (x == ("__debug__" : Str)) = false := by decide) (hst : starEach [.Lambda params body scope lpos] X.env = (false, eval (.Lambda params body scope lpos) X.env) :: starEach [] X.env := by rfl) (hpl : (backTo pos (starEach [] X.env)).any (·.1) = false := by rfl) :
    DE X (.Call (.Name x p) [.Lambda params body scope lpos] [] pos) (dHearL T q rH n t) := by
  subst hq
  refine PE.imp (de_hear (Ls := [⟨_, _, t⟩]) C (fun l hl => ?_) hr hgd hg (de_lam TB hcode hdef LS.free) hdb hst hpl) fun σ H Q ⟨ρ, G, q, r, ⟨gP, h⟩, k⟩ => ⟨ρ, G, q, r, ⟨gP, _, List.mem_singleton.mpr rfl, _, _, rfl, h _⟩, k⟩
  rw [List.mem_singleton] at hl
  subst hl
  exact ⟨params, body, scope, rfl, rfl, LS, hbind, hbody⟩
end
section
variable {P : Program} {w : World} {K : PySem.W.Frag} {mg : Str → Option Value} {base : Heap} {k : Nat} {x a : Str} {pg : Arguments} {bg : List Stmt} {sg : Scope} {g : Addr} {fd : FuncData} {Ng : List Str} {rH : Act → DTS}
theorem hearer_of (F : FunD K x x pg bg sg [] [] g fd) (hm : mg x = some (.ref g)) (S : FnScope Ng [a] sg) (hNg : Ng[0]? = some a) (hva : Vis sg a)
    (hbody : ∀ (cdv : Value) (A : Around) (out : List Env) (st : Shared) (H : Hp) (α : Act), Room (k + 1) (A.deeper (envOfC x sg st.heap.objs.size g cdv)) → (A.deeper (envOfC x sg st.heap.objs.size g cdv)).guards = some [] →
      (∀ (W : WX) (pn : List (Addr × Obj)) (xe : Value → Shared → Prop) (p1 p2 : Pos), Takes ((cxOf CX0 P w K mg base Ng x sg g cdv A out st H E0).tr pn xe) W →
        XE1 ((cxOf CX0 P w K mg base Ng x sg g cdv A out st H E0).tr pn xe) W (.Call (.Name a p1) [] [] p2) (xAct 0 α)) →
      DSs (cxOf CX0 P w K mg base Ng x sg g cdv A out st H E0).nox bg (rH α))
    (b1 : ∀ (kV doc pm : Value) (an : Option Addr) (cdv ct : Value) (us : List Value), us.length = [a].length → bindArgs (PySem.W.fnOf x x pg bg sg .none kV doc pm an cdv ct) ⟨us, []⟩ = pure ([a].zip us))
    (hd : (a == ("__debug__" : Str)) = false := by decide) (hcd : (a == ("__classdict__" : Str)) = false := by decide) : Hearer P w K mg base k x rH Ng.length := by
  have hb := F.bindsN b1
  obtain ⟨oc, od, dV, kV, doc, pm, an, cdv, ct, osl, rfl, lk, hcd2, hD, hK⟩ := F.ex
  exact ⟨g, pg, bg, sg, Ng, a, dV, kV, doc, pm, cdv, ct, oc, an, od, osl, hm, F.kp, lk, hcd2, hb, S, rfl, hNg, hva, hd, hcd, fun A out st H α hr hgd act => hbody cdv A out st H α hr hgd act⟩
end
section
variable {X : Cx} {W : WX}
end
end Dl

namespace Dl
open PySem PySem.Spec PyProof.Rows L2 LamX

def clsObjB (K : PySem.W.Frag) (C : Addr) : Bool := match K.lookup C with
  | some ⟨.type t, _, .cls cd, sl⟩ => decide (t = "type") && (match cd.mro, sl.toList with
    | .ref C' :: bm, [_, _, _, _, some (.builtin n), _] => decide (C' = C) && (decide (n = "ValueError.__new__") && (!cd.hasDel && (cd.hasDict && PySem.HandSPX.refsVE bm)))
    | _, _ => false)
  | _ => false
theorem clsObjB_ok {K : PySem.W.Frag} {C : Addr} (h : clsObjB K C = true) : ∃ nm q N bs bm sn sub ab col dd k0 k1 k2 k3 k5, K.lookup C = some (excClassObj nm q C N bs bm true sn sub ab col dd k0 k1 k2 k3 k5 "ValueError.__new__") ∧ PySem.HandSPX.refsVE bm = true := by
  unfold clsObjB at h
  split at h
  · rename_i t dd cd sl ho
    obtain ⟨h1, h⟩ := Bool.and_eq_true_iff.mp h
    obtain rfl := of_decide_eq_true h1
    split at h
    · rename_i C' bm k0 k1 k2 k3 n k5 hm hs
      simp only [Bool.and_eq_true, decide_eq_true_eq, Bool.not_eq_true'] at h
      obtain ⟨_, rfl, rfl, h3, h4, h5⟩ := h
      obtain ⟨nm, bs, mro, ns, qn, hd, sn, sub, ab, col, del⟩ := cd
      dsimp only at hm h3 h4
      subst hm h3 h4
      have hsl : sl = #[k0, k1, k2, k3, some (.builtin "ValueError.__new__"), k5] := by
        obtain ⟨l⟩ := sl
        simp only at hs
        rw [hs]
      subst hsl
      exact ⟨nm, qn, ns, bs, bm, sn, sub, ab, col, dd, k0, k1, k2, k3, k5, ho, h5⟩
    · cases h
  · cases h
structure XD where
  x : Str
  qual : Str
  params : Arguments
  body : List Stmt
  scope : Scope
  fl : List Str
abbrev FnE : Type := Option (Str × Str × Arguments × FuncBody × Scope × Addr × List Str × Addr)
def iniA (K : PySem.W.Frag) (x : Str) : Addr := He.ma K (He.ga K x) "__init__"
def fnE (K : PySem.W.Frag) (x : Str) : FnE := match K.lookup (iniA K x) with
  | some ⟨_, _, .func fd, _⟩ => some (fd.name, fd.qualname, fd.params, fd.body, fd.scope, fd.globals, fd.closure.map (·.1), fd.builtins)
  | _ => none
def XD.val (d : XD) : FnE := some ("__init__", d.qual, d.params, .stmts d.body, d.scope, mainGlobals, [("__class__" : Str)], builtinsNs)
def inimB (K : PySem.W.Frag) (file : Str) (C f : Addr) (qual : Str) : Bool := match K.lookup f with
  | some ⟨_, _, .func fd, _⟩ => (match fd.closure, fd.code, fd.defaults, fd.kwdefaults with
    | [(_, cc)], .ref c, .none, .none => (match K.lookup cc, K.lookup c with
      | some ⟨_, _, .cell (some (.ref D)), _⟩, some ⟨_, _, .fields vs, _⟩ => PySem.W.codeIn K (.ref c) qual && ((PySem.W.clsIn K D).isSome && (decide (PySem.W.mroIn K C (.ref D) = some true) && (decide (PySem.W.ks_superIn K C D "__init__" = some (some (.builtin veInit))) && (match (vs[2]? : Option Value) with
        | some (Value.str fl _) => (file : Str) == fl
        | _ => false))))
      | _, _ => false)
    | _, _, _, _ => false)
  | _ => false
def xinB (K : PySem.W.Frag) (file : Str) (d : XD) : Bool :=
  clsObjB K (He.ga K d.x) && (decide (PySem.W.findIn K (.ref (He.ga K d.x)) "__setattr__" = some (some (.builtin "object.__setattr__"))) && (decide (PySem.W.subIn K (.ref (He.ga K d.x)) (.type "BaseException") = some true) && (decide (PySem.W.typeIn K (.ref (He.ga K d.x)) = some (.type "type")) &&
  (PySem.W.keepIn K (.ref (He.ga K d.x)) && (decide (PySem.W.findIn K (.ref (He.ga K d.x)) "__init__" = some (some (.ref (iniA K d.x)))) && (decide (PySem.W.typeIn K (.ref (iniA K d.x)) = some (.type "function")) && (decide (PySem.W.subIn K (.ref (He.ga K d.x)) (.type "ValueError") = some true) &&
  (decide (PySem.W.nsIn K mainGlobals "super" = some none) && (decide (PySem.W.nsIn K cStatics "thirdparty.any" = some none) && (decide (PySem.W.nsIn K mainGlobals d.x = some (some (.ref (He.ga K d.x)))) && (d.fl.all (fun f => decide (PySem.W.findIn K (.ref (He.ga K d.x)) f = some none)) && inimB K file (He.ga K d.x) (iniA K d.x) d.qual)))))))))))
structure XinOk (K : PySem.W.Frag) (file : Str) (d : XD) (f c cc D : Addr) : Prop where
  s : ExcS K file (He.ga K d.x) f c cc D
  at_ : PySem.W.nsIn K mainGlobals d.x = some (some (.ref (He.ga K d.x)))
  no : ∀ g ∈ d.fl, PySem.W.findIn K (.ref (He.ga K d.x)) g = some none
  fn : ∃ (oc doc pm ct : Value) (an od : Option Addr) (osl : Array (Option Value)), K.lookup f = some ⟨oc, od, .func (PySem.W.fnX "__init__" d.qual d.params d.body d.scope [(("__class__" : Str), cc)] .none .none doc pm an (.ref c) ct), osl⟩
  code : PySem.W.codeIn K (.ref c) d.qual = true
theorem xinB_ok {K : PySem.W.Frag} {file : Str} {d : XD} (h : xinB K file d = true) (e : fnE K d.x = d.val) : ∃ f c cc D, XinOk K file d f c cc D := by
  unfold xinB at h
  simp only [Bool.and_eq_true, decide_eq_true_eq, List.all_eq_true] at h
  obtain ⟨a1, a2, a3, a4, a5, a6, a7, a8, a9, a10, a11, a12, a13⟩ := h
  unfold inimB at a13
  unfold fnE at e
  split at a13
  · rename_i oc od fd osl lf
    rw [lf] at e
    split at a13
    · rename_i nm cc c hcl hco hdf hkw
      split at a13
      · rename_i ca cb D csl da db vs dsl lcc lc
        simp only [Bool.and_eq_true, decide_eq_true_eq] at a13
        obtain ⟨b1, b2, b3, b4, b5⟩ := a13
        split at b5
        · rename_i fl tf hvs
          obtain ⟨n1, n2, n3, n4, n5, n6, n7, n8, n9, n10, n11, n12, n13, n14, n15⟩ := fd
          dsimp only at hcl hco hdf hkw
          subst hcl hco hdf hkw
          unfold XD.val at e
          simp only [Option.some.injEq, Prod.mk.injEq, List.map_cons, List.map_nil, List.cons.injEq, and_true] at e
          obtain ⟨e1, e2, e3, e4, e5, e6, e7, e8⟩ := e
          subst e1 e2 e3 e4 e5 e6 e7 e8
          refine ⟨iniA K d.x, c, cc, D, ⟨⟨clsObjB_ok a1, a2, a3, a4, a5⟩, a6, a7, Option.isSome_iff_exists.mp b2, ⟨_, _, _, lcc⟩, ⟨_, _, _, _, _, _, lc, hvs, b5⟩, b3, b4, a8, a9, a10⟩, a11, a12, ⟨_, _, _, _, _, _, _, lf⟩, b1⟩
        · cases b5
      · cases a13
    · cases a13
  · cases a13
section
open NdefX
variable {P : Program} {w : World} {K : PySem.W.Frag} {mg : Str → Option Value} {d : XD} {x1 x2 f1 f2 : Str} {p0 p1 p2 p3 p4 q1 q2 r1 r2 r3 r4 r5 r6 r7 r8 : Pos} {ar : Arg}
theorem xclass2 (h : xinB K P.main.file d = true) (e : fnE K d.x = d.val) (hmg : mg d.x = some (.ref (He.ga K d.x))) (hfl : d.fl = [f1, f2])
    (hbody : d.body = [stSup p0 p1 p2 p3 p4 [.Name x1 q1, .Name x2 q2], stKeep x1 f1 r1 r2 r3 r4, stKeep x2 f2 r5 r6 r7 r8]) (NS : NScope (nI [x1, x2]) [("self" : Str), x1, x2] ["__class__"] d.scope) (hp : (d.params.posonlyargs ++ d.params.args).head? = some ar) (har : ar.arg = ("self" : Str))
    (hks : d.scope.names.lookup ("super" : Str) = some .globalImplicit) (htop : (P.main.scope.names.lookup ("super" : Str)).isSome = false)
    (d1 : (x1 == ("__debug__" : Str)) = false) (d2 : (x2 == ("__debug__" : Str)) = false) (e1 : (x1 == ("__classdict__" : Str)) = false) (e2 : (x2 == ("__classdict__" : Str)) = false)
    (hb : ∀ (cl : List (Str × Addr)) (doc pm cdv ct : Value) (an : Option Addr) (us : List Value), us.length = 3 → bindArgs (PySem.W.fnX "__init__" d.qual d.params d.body d.scope cl .none .none doc pm an cdv ct) ⟨us, []⟩ = pure ([("self" : Str), x1, x2].zip us))
    {pl : Env → Sem Bool} (hev : ∀ env, eval (.Call (.Attribute (.Call (.Name "super" p0) [] [] p1) "__init__" p2) [.Name x1 q1, .Name x2 q2] [] p3) env = (do
      let ov ← attributeBase (.Call (.Name "super" p0) [] [] p1) "__init__" env (eval (.Call (.Name "super" p0) [] [] p1) env)
      standAt p2.atName
      let (g, first) ← holding [ov] (getMethod ov "__init__" (pl env))
      callWith p3 g first (backTo p3 (starEach [.Name x1 q1, .Name x2 q2] env)) []))
    (hsw : ∀ env, swapsWith (.Call (.Attribute (.Call (.Name "super" p0) [] [] p1) "__init__" p2) [.Name x1 q1, .Name x2 q2] [] p3) none p4.line env = pure false) : XClass P w K mg d.x [f1, f2] := by
  obtain ⟨f, c, cc, D, X⟩ := xinB_ok h e
  obtain ⟨oc, doc, pm, ct, an, od, osl, lf⟩ := X.fn
  refine ⟨X.s.ox, by show 2 ≤ 100; decide, hmg, fun base => ⟨f, _, [("self" : Str), x1, x2], X.s.ini, X.s.fnT, ?_, Binds.all fun us hl => hb [(("__class__" : Str), cc)] doc pm (.ref c) ct an us hl⟩⟩
  rw [hbody] at lf ⊢
  exact xinit2 X.s lf X.code NS hp har hks htop (X.no f1 (by rw [hfl]; simp)) (X.no f2 (by rw [hfl]; simp)) d1 d2 e1 e2 hev hsw
end

structure PDef where
  c : Str
  f : Str
  params : Arguments
  body : List Stmt
  scope : Scope
def atA (K : PySem.W.Frag) (c f : Str) : Addr := He.ma K (He.ga K c) f
def getA (K : PySem.W.Frag) (c f : Str) : Addr := match PySem.W.recIn K (atA K c f) "property" with
  | some (.ref g :: _) => g
  | _ => 0
def fnP (K : PySem.W.Frag) (c f : Str) : FnE := match K.lookup (getA K c f) with
  | some ⟨_, _, .func fd, _⟩ => some (fd.name, fd.qualname, fd.params, fd.body, fd.scope, fd.globals, fd.closure.map (·.1), fd.builtins)
  | _ => none
def PDef.qual (d : PDef) : Str := d.c ++ "." ++ d.f
def PDef.val (d : PDef) : FnE := some (d.f, d.qual, d.params, .stmts d.body, d.scope, mainGlobals, [], builtinsNs)
abbrev AlE : Type := He.AlD × Bool × List FnE × List FnE
def obsE (fx : List Fx) (fn : List He.DefD) (tf : List He.Defn) (ex : PySem.W.Frag → Bool) (xs : List XD) (pd : List PDef) (g : Addr → Option Obj) (K : PySem.W.Frag) : AlE := (obsX fx fn K, (ex K && (xs.all fun _ => true) && He.tabsB g tf K && decide ((tf.map fun p => (He.cT K p).2).Nodup)), (xs.map fun d => fnE K d.x), pd.map fun d => fnP K d.c d.f)
def valE (fn : List He.DefD) (xs : List XD) (pd : List PDef) : AlE := (He.valD fn, true, xs.map XD.val, pd.map PDef.val)
structure SaysE (fx : List Fx) (fn : List He.DefD) (tf : List He.Defn) (ex : PySem.W.Frag → Bool) (xs : List XD) (pd : List PDef) (h : Heap) (K : PySem.W.Frag) : Prop where
  x : SaysX fx fn K
  more : ex K = true
  ini : ∀ d ∈ xs, fnE K d.x = d.val
  get : ∀ d ∈ pd, fnP K d.c d.f = d.val
  hd : ∀ p ∈ tf, PySem.W.codeHdIn K (He.cT K p).1 (He.cT K p).2 = true
  out : ∀ p ∈ tf, K.lookup (He.cT K p).2 = none
  empty : ∀ p ∈ tf, h.get? (He.cT K p).2 = some { cls := .none, data := .fields #[] }
  nd : (tf.map fun p => (He.cT K p).2).Nodup
theorem saysE_of {fx : List Fx} {fn : List He.DefD} {tf : List He.Defn} {ex : PySem.W.Frag → Bool} {xs : List XD} {pd : List PDef} {h : Heap} {as : List Addr} (e : obsE fx fn tf ex xs pd h.get? (He.frT h.get? as) = valE fn xs pd) : SaysE fx fn tf ex xs pd h (He.frT h.get? as) := by
  have e1 := congrArg (fun z : AlE => z.1) e
  have e2 := congrArg (fun z : AlE => z.2.1) e
  have e3 := congrArg (fun z : AlE => z.2.2.1) e
  have e4 := congrArg (fun z : AlE => z.2.2.2) e
  dsimp only [obsE, valE] at e1 e2 e3 e4
  simp only [Bool.and_eq_true, decide_eq_true_eq] at e2
  obtain ⟨⟨⟨h1, _⟩, h2⟩, h3⟩ := e2
  have key : ∀ p ∈ tf, PySem.W.codeHdIn (He.frT h.get? as) (He.cT (He.frT h.get? as) p).1 (He.cT (He.frT h.get? as) p).2 = true ∧ ∃ o, h.get? (He.cT (He.frT h.get? as) p).2 = some o ∧ He.emptyTab o = true := fun p hp => by
    obtain ⟨h4, h5⟩ := Bool.and_eq_true_iff.mp (List.all_eq_true.mp h2 p hp)
    refine ⟨h4, ?_⟩
    split at h5
    · rename_i o q
      exact ⟨o, q, h5⟩
    · cases h5
  refine ⟨e1, h1, fun d hd => ?_, fun d hd => ?_, fun p hp => (key p hp).1, fun p hp => ?_, fun p hp => ?_, h3⟩
  · have z : ∀ (l : List XD), (l.map fun d => fnE (He.frT h.get? as) d.x) = l.map XD.val → ∀ d ∈ l, fnE (He.frT h.get? as) d.x = d.val := by
      intro l
      induction l with
      | nil => intro _ d hd; cases hd
      | cons y ys ih =>
        intro q d hd
        simp only [List.map_cons, List.cons.injEq] at q
        rcases List.mem_cons.mp hd with rfl | hd
        · exact q.1
        · exact ih q.2 d hd
    exact z xs e3 d hd
  · have z : ∀ (l : List PDef), (l.map fun d => fnP (He.frT h.get? as) d.c d.f) = l.map PDef.val → ∀ d ∈ l, fnP (He.frT h.get? as) d.c d.f = d.val := by
      intro l
      induction l with
      | nil => intro _ d hd; cases hd
      | cons y ys ih =>
        intro q d hd
        simp only [List.map_cons, List.cons.injEq] at q
        rcases List.mem_cons.mp hd with rfl | hd
        · exact q.1
        · exact ih q.2 d hd
    exact z pd e4 d hd
  · obtain ⟨_, o, q, z⟩ := key p hp
    exact He.frT_none q z
  · obtain ⟨_, o, q, z⟩ := key p hp
    rw [q, He.emptyTab_eq z]
def obsEG (n : Nat) (fx : List Fx) (fn : List He.DefD) (tf : List He.Defn) (ex : PySem.W.Frag → Bool) (xs : List XD) (pd : List PDef) (g : Addr → Option Obj) : AlE := obsE fx fn tf ex xs pd g (He.frT g (cStatics :: He.asD g n))
def hookE (n : Nat) (fx : List Fx) (fn : List He.DefD) (tf : List He.Defn) (ex : PySem.W.Frag → Bool) (xs : List XD) (pd : List PDef) : PySem.W.Hook where
  α := AlE
  obs := fun s => obsEG n fx fn tf ex xs pd s.heap.get?
  val := fun _ => valE fn xs pd
  says := fun _ h => ∃ K : PySem.W.Frag, K.In h ∧ SaysE fx fn tf ex xs pd h K
  of := fun _ _ e => ⟨_, He.frT_in, saysE_of e⟩
  keeps := fun _ _ _ ⟨K, hK, c⟩ k => ⟨K, PySem.W.Frag.In.keeps hK k, ⟨c.x, c.more, c.ini, c.get, c.hd, c.out, fun p hp => k _ _ (c.empty p hp), c.nd⟩⟩
theorem obsEG_eq {n : Nat} {fx : List Fx} {fn : List He.DefD} {tf : List He.Defn} {ex : PySem.W.Frag → Bool} {xs : List XD} {pd : List PDef} {g : Addr → Option Obj} {s : Shared} (h : ∀ a, g a = s.heap.get? a) : obsEG n fx fn tf ex xs pd g = (hookE n fx fn tf ex xs pd).obs s := by
  have e : g = s.heap.get? := funext h
  rw [e] <;> rfl

def tabG (T : List (Addr × Str)) : GH := fun b => (T.lookup b).map DO.tab
theorem look_cons (u : Addr) (v : Str) (r : List (Addr × Str)) (b : Addr) : ((u, v) :: r).lookup b = if b = u then some v else r.lookup b := by
  rw [List.lookup_cons]
  by_cases h : b = u
  · subst h; simp
  · have e : (b == u) = false := by simpa using h
    rw [e, if_neg h]
theorem look_nd {T : List (Addr × Str)} (nd : (T.map (·.1)).Nodup) : ∀ p ∈ T, T.lookup p.1 = some p.2 := by
  induction T with
  | nil => intro p hp; cases hp
  | cons q r ih =>
    intro p hp
    obtain ⟨u, v⟩ := q
    simp only [List.map_cons, List.nodup_cons] at nd
    rw [look_cons]
    rcases List.mem_cons.mp hp with rfl | hp
    · rw [if_pos rfl]
    · have ne : p.1 ≠ u := fun z => nd.1 (by rw [← z]; exact List.mem_map_of_mem hp)
      rw [if_neg ne]
      exact ih nd.2 p hp
theorem tabG_at {T : List (Addr × Str)} (nd : (T.map (·.1)).Nodup) {p : Addr × Str} (hp : p ∈ T) : tabG T p.1 = some (.tab p.2) := by
  unfold tabG
  rw [look_nd nd p hp]
  rfl
theorem look_mem {b : Addr} {q : Str} : ∀ {T : List (Addr × Str)}, T.lookup b = some q → (b, q) ∈ T
  | [], h => by cases h
  | (u, v) :: r, h => by
    rw [look_cons] at h
    by_cases e : b = u
    · rw [if_pos e] at h
      cases h
      rw [e]
      exact List.mem_cons_self
    · rw [if_neg e] at h
      exact List.mem_cons_of_mem _ (look_mem h)
theorem law_goT {P : Program} {w : World} {K : PySem.W.Frag} {mg mb : Str → Option Value} {k : Nat} {fa a : Addr} {T : List (Addr × Str)} {cs : List (Addr × Addr)} {fd : FuncData} {x : Str} {sp : DSp} {st : Shared} {vs : List Value} {ns : List Int}
    (kin : K.In st.heap) (gl : st.heap.Ns mainGlobals mg) (bl : st.heap.Ns builtinsNs mb) (bb : ∀ y : Str, y ≠ "__name__" → mb y = bootBuiltins y) (lim : st.heap.NoLimit) (hg : st.gens = #[])
    (hT : ∀ p ∈ T, st.heap.get? p.1 = some { cls := .none, data := .fields #[] }) (nT : ∀ p ∈ T, K.lookup p.1 = none) (hcs : ∀ p ∈ cs, p.2 ∈ T.map (·.1)) (hct : ∀ p ∈ T, ∃ c, (c, p.1) ∈ cs) (C : ∀ p ∈ cs, PySem.W.CodeHd st.heap p.1 p.2)
    (hbm : ∃ (bm : Addr) (ob : Obj), mg "__builtins__" = some (.ref bm) ∧ bm ≠ builtinsNs ∧ st.heap.get? bm = some ob ∧ ob.cls = .type "module" ∧ ob.dict = some builtinsNs ∧ ob.data = .plain)
    (ha : st.heap.get? a = some { cls := .type "list", data := .seq vs.toArray }) (hi : IntsAre vs ns) (hl : ns.length ≤ sizeLine) (hr : Room k callerA) (hgd : callerA.guards = some [])
    (F : ∀ base : Heap, K.In base → base.Ns mainGlobals mg → (∀ p ∈ cs, TabB base mg p.1 p.2) → DFn P w K mg base k fa fd [x] sp) (bind : ∀ (s : Shared) (u : Value), BindsTo s fd ⟨[u], []⟩ [(x, u)])
    (hsp : sp [.scr ns] (tabG T) (fun d _ => d = .bl true) noX) :
    codeAny (model P w) callerA (.call (.ref fa) ⟨[.ref a], []⟩) (fun r s' => r = .ok (.ret (.bool true)) ∧ OldK st.heap s'.heap ∧ s'.os = st.os ∧ AllBare s'.gens) st := by
  have rv : Vals (ns.map V.int) vs := vals_of_ints hi
  have ln : vs.length = ns.length := hi.length
  let ob : Obj := { cls := .type "list", data := .seq vs.toArray }
  let fz : HO := .frz ob (.lst (ns.map V.int))
  have isT : ∀ {b : Addr} {q : Str}, T.lookup b = some q → st.heap.get? b = some { cls := .none, data := .fields #[] } := fun {b q} h => hT _ (look_mem h)
  have aT : T.lookup a = none := by
    cases q : T.lookup a with
    | none => rfl
    | some y =>
      have z := isT q
      rw [ha] at z
      have z' : Data.seq vs.toArray _ = Data.fields #[] := congrArg Obj.data (Option.some.inj z)
      cases z'
  -- the abstract heap: the tables, and the script, if it is not of the written part
  obtain ⟨H, h0, h1, h2, h3⟩ : ∃ H : Hp, (∀ b q, T.lookup b = some q → H b = some (.tbl #[])) ∧ (∀ b, T.lookup b = none → H b = none ∨ (b = a ∧ H b = some fz)) ∧ ScrAt K (tabG T) H a (ns.map V.int) ∧ (∀ b o, K.lookup b = some o → H b = none) := by
    have ga : tabG T a = none := by unfold tabG; rw [aT]; rfl
    cases q : K.lookup a with
    | some o =>
      have e := kin a o q
      rw [ha] at e
      cases e
      refine ⟨fun b => (T.lookup b).map fun _ => .tbl #[], fun b q z => by show (T.lookup b).map _ = _; rw [z]; rfl, fun b z => .inl (by show (T.lookup b).map _ = _; rw [z]; rfl), .inr ⟨_, vs.toArray, _, q, rfl, rfl, rfl, ?_, ?_⟩, fun b o z => ?_⟩
      · rw [List.size_toArray, ln]; exact hl
      · simpa using rv
      · show (T.lookup b).map _ = _
        cases y : T.lookup b with
        | none => rfl
        | some t => rw [nT _ (look_mem y)] at z; cases z
    | none =>
      refine ⟨fun b => if b = a then some fz else (T.lookup b).map fun _ => .tbl #[], fun b q z => ?_, fun b z => ?_, .inl ⟨ga, .inr ⟨ob, if_pos rfl⟩⟩, fun b o e => ?_⟩
      · have n : b ≠ a := fun y => by rw [y, aT] at z; cases z
        show (if b = a then some fz else (T.lookup b).map fun _ => .tbl #[]) = _
        rw [if_neg n, z]; rfl
      · by_cases e : b = a
        · exact .inr ⟨e, if_pos e⟩
        · refine .inl ?_
          show (if b = a then some fz else (T.lookup b).map fun _ => .tbl #[]) = _
          rw [if_neg e, z]; rfl
      · show (if b = a then some fz else (T.lookup b).map fun _ => .tbl #[]) = _
        have n : b ≠ a := fun y => by rw [y, q] at e; cases e
        rw [if_neg n]
        cases y : T.lookup b with
        | none => rfl
        | some t => rw [nT _ (look_mem y)] at e; cases e
  have noD : ∀ {b : Addr} {o : Obj}, st.heap.get? b = some o → (∀ us n, o.data ≠ .seq us n) → o.data ≠ .fields #[] → H b = none := by
    intro b o e d1 d2
    cases y : T.lookup b with
    | some q =>
      have z := isT y
      rw [e] at z
      cases z
      exact absurd rfl d2
    | none =>
      rcases h1 b y with z | ⟨rfl, _⟩
      · exact z
      · rw [ha] at e
        cases e
        exact absurd rfl (d1 _ _)
  have keep : ∀ {b : Addr} {m : Str → Option Value}, st.heap.Ns b m → (hidT st.heap H).Ns b m := by
    rintro b m ⟨o, es, ep, e, d, r⟩
    exact ⟨o, es, ep, hidT_get e (noD e (fun _ _ z => by rw [d] at z; cases z) (fun z => by rw [d] at z; cases z)), d, r⟩
  have kin2 : K.In (hidT st.heap H) := fun b o e => hidT_get (kin b o e) (h3 b o e)
  have ok : HOk P w H st.heap := by
    intro b u e
    cases y : T.lookup b with
    | some q =>
      rw [h0 b q y] at e
      cases e
      exact isT y
    | none =>
      rcases h1 b y with z | ⟨rfl, z⟩
      · rw [z] at e; cases e
      · rw [z] at e
        cases e
        exact ⟨ha, by rw [List.length_map]; exact hl, vs, _, rv, ha⟩
  obtain ⟨ml, l1, l2⟩ := lim
  have e0 : Env0 P w K mg (hidT st.heap H) callerA [] st H :=
    { frames := rfl, mod := ⟨kin2, keep gl, ⟨mb, keep bl, bb⟩, ⟨ml, keep l1, l2⟩⟩, bs := fun b o e => of_hidT e, bsz := Nat.le_of_eq (hidT_size _ _), funs := trivial, frf := fun b hb => absurd (show b ∈ ([] : List Addr) from hb) (by simp), hok := ok, bare := .of_eq hg }
  have gok : GOk K (tabG T) H := fun b u e => by
    unfold tabG at e
    cases y : T.lookup b with
    | none => rw [y] at e; cases e
    | some q =>
      rw [y] at e
      cases e
      exact ⟨#[], h0 b q y, True.intro, fun pos cv hc => by
        have z : codeAmong pos [] = some cv := hc
        simp [codeAmong] at z⟩
  have rep : RepL K (tabG T) H [.scr ns] [.ref a] := repL_one (by unfold RepV; exact ⟨a, rfl, h2⟩)
  have prom : toSp K sp [.ref a] H (fun v _ => v = .bl true) E0 := ⟨_, _, _, noX, rep, gok, hsp, fun v d H' G' _ _ r q => by
    have q' : d = .bl true := q
    subst q'
    exact rv_bl r, fun _ _ _ _ _ _ _ _ z => z.elim⟩
  have TB : ∀ p ∈ cs, TabB (hidT st.heap H) mg p.1 p.2 := fun p hp => by
    obtain ⟨t, ht, et⟩ := List.mem_map.mp (hcs p hp)
    have hTp := hT t ht
    rw [et] at hTp
    refine ⟨?_, ?_, fun z => ?_⟩
    · obtain ⟨o, us, file, tf, flags, tg, inF, text, tt, e1, r1, r2, r3, r4, r5, r6, r7, r8, hne⟩ := C p hp
      refine ⟨o, us, file, tf, flags, tg, inF, text, tt, hidT_get e1 (noD e1 (fun _ _ z => by rw [r2] at z; cases z) (fun z => ?_)), r1, r2, r3, r4, r5, r6, r7, r8, hne⟩
      rw [r2] at z
      cases z
      simp at r3
    · obtain ⟨bm, om, b1, b2, b3, b4, b5, b6⟩ := hbm
      refine ⟨bm, om, b1, b2, fun q => ?_, fun q => ?_, hidT_get b3 (noD b3 (fun _ _ z => by rw [b6] at z; cases z) (fun z => by rw [b6] at z; cases z)), b4, b5, b6⟩
      · obtain ⟨o, es, ep, e, hd, _⟩ := gl
        rw [q, e] at b3
        cases b3
        rw [hd] at b6
        cases b6
      · rw [q, hTp] at b3
        cases b3
        cases b6
    · obtain ⟨o, es, ep, e, hd, _⟩ := gl
      rw [z, hTp] at e
      cases e
      cases hd
  refine codeAny_mono ((F _ kin2 (keep gl) TB).go callerA [] st H ⟨[.ref a], []⟩ [.ref a] [.ref a] _ _ hr hgd e0 (bind st (.ref a)) (.cons rfl .nil) prom) ?_
  intro r s2 hq
  match r, hq with
  | .ok (.ret u), hq =>
    obtain ⟨v, H2, os, bare, un, ok2, ru, qv⟩ := hq
    have qv' : v = .bl true := qv
    subst qv'
    obtain rfl : u = Value.bool true := ru
    have key : ∀ b o, T.lookup b = none → st.heap.get? b = some o → s2.heap.get? b = some o := by
      intro b o y e
      rcases h1 b y with z | ⟨rfl, z⟩
      · exact un.keep b o e z (by simp [frs]) (by simp)
      · have z2 := un.frzs _ ob _ z
        obtain ⟨e1, _⟩ := ok _ _ z
        obtain ⟨e2, _⟩ := ok2 _ _ z2
        rw [e] at e1
        cases e1
        exact e2
    have grown : ∀ b q, T.lookup b = some q → ∃ more : Array Value, s2.heap.get? b = some { cls := .none, data := .fields more } := fun b q y => by
      obtain ⟨more, z⟩ := un.tbls b #[] (h0 b q y)
      exact ⟨_, ok2 b _ z⟩
    refine ⟨rfl, ⟨fun b o e => ?_, fun b o e => ?_⟩, os, bare⟩
    · cases y : T.lookup b with
      | none => exact .inl (key b o y e)
      | some q =>
        obtain ⟨more, hm⟩ := grown b q y
        have hTb := isT y
        rw [hTb] at e
        cases e
        obtain ⟨c, hc⟩ := hct _ (look_mem y)
        exact .inr (.inl ⟨((C _ hc).tab hTb).isCodeTable, rfl, #[], more, rfl, by rw [Array.empty_append]; exact hm⟩)
    · cases y : T.lookup b with
      | none => exact ⟨o, key b o y e⟩
      | some q =>
        obtain ⟨more, hm⟩ := grown b q y
        exact ⟨_, hm⟩
theorem d_walkT {l : PySem.W.OpenLaw} {n k : Nat} {q : Program} {loose : List Str} {XP : (Str → Option Value) → Heap → Prop} {YP : World → Heap → Prop} {d : DefRec} {x : Str}
    (hn : l.most = some n) (hn2 : n ≤ sizeLine) (hdf : d.params.defaults = []) (hr : Room k callerA) (hgd : callerA.guards = some [])
    (F : ∀ (w : World) (mg : Str → Option Value) (fa : Addr) (h : Heap), YP w h → h.Ns mainGlobals mg → mg d.name = some (.ref fa) →
      ∃ (K : PySem.W.Frag) (fd : FuncData) (sp : DSp) (T : List (Addr × Str)) (cs : List (Addr × Addr)), K.In h ∧ (∀ (s : Shared) (u : Value), BindsTo s fd ⟨[u], []⟩ [(x, u)]) ∧
        (∀ p ∈ T, h.get? p.1 = some { cls := .none, data := .fields #[] }) ∧ (∀ p ∈ T, K.lookup p.1 = none) ∧ (∀ p ∈ cs, p.2 ∈ T.map (·.1)) ∧ (∀ p ∈ T, ∃ c, (c, p.1) ∈ cs) ∧ (∀ p ∈ cs, PySem.W.CodeHd h p.1 p.2) ∧
        (∀ ns : List Int, ns.length ≤ n → sp [.scr ns] (tabG T) (fun d _ => d = .bl true) noX) ∧
        ∀ base : Heap, K.In base → base.Ns mainGlobals mg → (∀ p ∈ cs, TabB base mg p.1 p.2) → DFn l.prog w K mg base k fa fd [x] sp) :
    PySem.W.WalkO q loose XP YP l.row.toRowW d [] (fun f vs => PySem.call f vs) := by
  refine Att.attach_call hn hdf ?_
  intro w s0 s1 mg mb fa o pm cd doc a vs ns G Y ho hd hcd hmg hobj hints hlen hg
  obtain ⟨K, fd, sp, T, cs, kin, hb, t1, t2, t3, t4, t5, hsp, hF⟩ := F w mg fa _ Y G.T.g hmg
  exact law_goT kin G.T.g G.T.b G.T.builtins G.T.nolimit hg t1 t2 t3 t4 t5 G.T.bmain hobj hints (Nat.le_trans hlen hn2) hr hgd hF hb (hsp ns hlen)
end Dl

namespace Dl
open PySem L2
end Dl

namespace Dl
open PySem L2
def bolsD : List D → Option (List Bool)
  | [] => some []
  | .bl b :: r => (bolsD r).map (b :: ·)
  | _ :: _ => none
theorem bolsD_of : ∀ {ds : List D} {bs : List Bool}, bolsD ds = some bs → ds = bs.map D.bl
  | [], bs, h => by simp [bolsD] at h; subst h; rfl
  | .bl b :: r, bs, h => by
    unfold bolsD at h
    cases e : bolsD r with
    | none => rw [e] at h; cases h
    | some l =>
      rw [e] at h
      simp at h
      subst h
      rw [bolsD_of e]; rfl
  | .non :: _, _, h => by simp [bolsD] at h
  | .int _ :: _, _, h => by simp [bolsD] at h
  | .str _ :: _, _, h => by simp [bolsD] at h
  | .byt _ :: _, _, h => by simp [bolsD] at h
  | .tup _ :: _, _, h => by simp [bolsD] at h
  | .lst _ :: _, _, h => by simp [bolsD] at h
  | .ref _ :: _, _, h => by simp [bolsD] at h
  | .scr _ :: _, _, h => by simp [bolsD] at h
@[simp] def bolsP (G : GH) (x : D) (P : List Bool → Prop) : Prop := match lsOf G x with
  | some ds => (match bolsD ds with
    | some bs => P bs
    | none => False)
  | none => False
@[simp] def rAllC : DRC := fun ds G Q => arg1 ds fun x => bolsP G x fun bs => Q (.bl (bs.all id)) G
theorem bols_pure : ∀ bs : List Bool, pureDs (bs.map D.bl) = true
  | [] => by simp [pureDs]
  | b :: bs => by simp [pureDs, pureD, bols_pure bs]
theorem bols_py : ∀ bs : List Bool, pyDs (bs.map D.bl) = bs.map PyData.bool
  | [] => by simp [pyDs]
  | b :: bs => by simp [pyDs, pyD, bols_py bs]
theorem bols_plain : ∀ bs : List Bool, PyData.plainAll (bs.map PyData.bool) = true
  | [] => by simp [PyData.plainAll]
  | b :: bs => by simp [PyData.plainAll, PyData.plain, bols_plain bs]
theorem bols_all : ∀ bs : List Bool, (bs.map PyData.bool).all PyData.truthy = bs.all id
  | [] => rfl
  | b :: bs => by simp [PyData.truthy, bols_all bs]
section
variable {X : Cx}
theorem c_all (hc : X.calm = true) : DCall X (.builtin "all") rAllC := by
  intro pins s σ H xs us Q I r ⟨G, ds, q, g, rl, h0, k⟩
  obtain ⟨d, rfl, h⟩ := arg1_of h0
  obtain ⟨x, rfl, rx⟩ := repL_1 rl
  unfold bolsP at h
  cases e : lsOf G d with
  | none => rw [e] at h; exact h.elim
  | some l =>
    rw [e] at h
    dsimp only at h
    cases e2 : bolsD l with
    | none => rw [e2] at h; exact h.elim
    | some bs =>
      rw [e2] at h
      dsimp only at h
      obtain ⟨a, ys, rfl, h1, l1⟩ := ls_at g rx e
      rw [bolsD_of e2] at l1
      obtain ⟨u, rfl, ru⟩ := vals1 r
      cases ru
      obtain ⟨its, rv, hl, _⟩ := I.list (SqL.of h1)
      obtain ⟨as, rd⟩ := Dp.readsAll I _ _ _ (dps_of l1 (bols_pure bs)) rv
      rw [bols_py] at rd
      refine PySem.W.all_list_data (I.ok.hd hc) hl.isList rd (bols_plain bs) (fun x hx => ?_) fun h' tk hk => ?_
      · obtain ⟨b, _, rfl⟩ := List.mem_map.mp hx
        trivial
      · rw [bols_all]
        exact ⟨.bl _, H, I.kept hk, rfl, k _ _ H G (Ext.refl G H) g bl_rv h⟩
end
end Dl
namespace Dl
open PySem PySem.Spec PyProof.Rows HT
section
variable {prog : Program} {w : World} {A : Around} {E : Value → Shared → Prop} {s : Shared}
theorem applied_rev {sl : Addr} {vl vu vs : Value} {n : Nat} {Q : Int × Int × Nat → Shared → Prop} (hs : s.heap.IsSliceOf sl vl vu vs) (pl : IsPart vl none) (pu : IsPart vu none) (ps : IsPart vs (some (-1)))
    (h : Q ((n : Int) - 1, -1, n) s) : wpAny (model prog w) A (Builtin.Slice.sliceApplied (.ref sl) (pure (n : Int))) Q E s := by
  obtain ⟨os, hos, hcs, hds⟩ := id hs
  unfold Builtin.Slice.sliceApplied Builtin.Slice.sliceFields
  refine wpAny_bind (wpAny_bind (wpAny_field hos hds (x := vl) rfl (wpAny_bind (wpAny_field hos hds (x := vu) rfl (wpAny_bind (wpAny_field hos hds (x := vs) rfl (wpAny_pure ?_)))))))
  refine wpAny_bind (slicePart_ ps ?_)
  show wpAny _ _ (if ((-1 : Int) == 0) = true then _ else _) _ _ s
  rw [if_neg (by decide)]
  refine wpAny_bind (slicePart_ pl (wpAny_bind (slicePart_ pu (wpAny_bind (wpAny_pure ?_)))))
  show wpAny _ _ (pure ((n : Int) - 1, (-1 : Int), Builtin.Slice.slicePlaces ((n : Int) - 1) (-1) (-1))) _ _ s
  have e : Builtin.Slice.slicePlaces ((n : Int) - 1) (-1) (-1) = n := by
    unfold Builtin.Slice.slicePlaces
    rw [if_neg (by decide)]
    split
    · rw [show (-(-1) : Int) = 1 from by decide, Int.ediv_one]; omega
    · omega
  rw [e]
  exact wpAny_pure h
theorem fm_congr {α β : Type} {f g : α → Option β} : ∀ {l : List α}, (∀ x ∈ l, f x = g x) → l.filterMap f = l.filterMap g
  | [], _ => rfl
  | x :: l, h => by
    rw [List.filterMap_cons, List.filterMap_cons, h x (List.mem_cons_self ..), fm_congr fun y hy => h y (List.mem_cons_of_mem _ hy)]
theorem rev_pick (xs : Array Value) : ((List.range xs.size).filterMap fun (m : Nat) => xs[(((xs.size : Int) - 1) + (m : Int) * (-1)).toNat]?).toArray = xs.toList.reverse.toArray := by
  have e : (List.range xs.size).filterMap (fun (m : Nat) => xs[(((xs.size : Int) - 1) + (m : Int) * (-1)).toNat]?) = ((List.range xs.size).map fun k => xs.size - 1 - k).filterMap (xs[·]?) := by
    rw [List.filterMap_map]
    refine fm_congr ?_
    intro m hm
    have := List.mem_range.mp hm
    show xs[(((xs.size : Int) - 1) + (m : Int) * (-1)).toNat]? = xs[xs.size - 1 - m]?
    congr 1
    omega
  rw [e, PySem.W.krv_range, List.filterMap_reverse, PySem.W.krv_all]
theorem getItem_tuple_rev {t sl : Addr} {items : Array Value} {vl vu vs : Value} {Q : Value → Shared → Prop} (ht : IsTup s.heap t items) (hs : s.heap.IsSliceOf sl vl vu vs) (pl : IsPart vl none) (pu : IsPart vu none) (ps : IsPart vs (some (-1)))
    (h : Q (.ref s.heap.objs.size) { s with heap := s.heap.push { cls := .type "tuple", data := .seq items.toList.reverse.toArray } })
    (hsz : items.size ≤ sizeLine) : wpAny (model prog w) A (getItem (.ref t) (.ref sl)) Q E s := by
  have htake : sizeOk (.seq items.toList.reverse.toArray) := by
    show items.toList.reverse.toArray.size ≤ sizeLine
    rw [List.size_toArray, List.length_reverse, Array.length_toList]
    exact hsz
  obtain ⟨os, hos, hcs, hds⟩ := id hs
  have hTs : s.TypeIs (.ref sl) "slice" := ⟨os, hos, hcs⟩
  unfold getItem
  try with_reducible refine wpAny_holding ?_
  first | refine wpAny_bind (wpAny_pure ?_) | skip
  refine wpAny_bind (wpAny_sequenceKey ht.typeIs (by decide) ?_)
  refine wpAny_bind (wpAny_callSpecial?_slot (name := Str.ofString "__getitem__") ht.typeIs PyProof.Rows.slot_tuple_getitem
    (wpAny_call_entry PyProof.Rows.slot_tuple_getitem ht.typeIs entry_tuple_getitem ?_ (args_tuple_getitem _ _)))
  show wpAny _ _ (Builtin.Tuple.tupleItemsOf (.ref t) >>= _) _ _ s
  refine wpAny_bind (tupleItemsOf_ ht ?_)
  refine wpAny_bind (wpAny_typeOf hTs ?_)
  rw [if_pos (by decide)]
  refine wpAny_bind (applied_rev hs pl pu ps ?_)
  have hno : ¬ (((items.size : Int) - 1 == 0 && (-1 : Int) == 1 && items.size == items.size) = true) := by
    intro q
    rw [Bool.and_eq_true, Bool.and_eq_true] at q
    exact absurd q.1.2 (by decide)
  show wpAny _ _ (if (((items.size : Int) - 1 == 0 && (-1 : Int) == 1 && items.size == items.size) = true) then _ else _) _ _ s
  rw [if_neg hno, rev_pick]
  first
    | exact wpAny_bind (m := Builtin.Tuple.tupleExact _) (wpAny_newObj_type (wpAny_pure ⟨_, rfl, wpAny_pure h⟩) htake)
    | exact wpAny_bind (m := Builtin.Tuple.tupleExact _) (wpAny_newObj_type (wpAny_bind (wpAny_pure (wpAny_pure ⟨_, rfl, wpAny_pure h⟩))) htake)
    | exact wpAny_bind (wpAny_bind (m := Builtin.Tuple.tupleExact _) (wpAny_newObj_type (wpAny_pure (wpAny_pure ⟨_, rfl, wpAny_pure h⟩)) htake))
    | exact wpAny_bind (wpAny_bind (m := Builtin.Tuple.tupleExact _) (wpAny_newObj_type (wpAny_pure ⟨_, rfl, wpAny_pure h⟩) htake))
end
end Dl
namespace Dl
open PySem L2
@[simp] def rRev : D → GH → DK → Prop := fun x G Q => match x with
  | .tup ds => Q (.tup ds.reverse) G
  | .lst ds => ∀ p, G p = none → Q (.ref p) (updG G p (.lst ds.reverse))
  | .ref a => (match G a with
    | some (.lst ds) => ∀ p, G p = none → Q (.ref p) (updG G p (.lst ds.reverse))
    | _ => False)
  | _ => False
@[simp] def dRev (te : DTE) : DTE := fun ρ G Q => te ρ G fun x G1 => rRev x G1 Q
def tRevA (K : PySem.W.Frag) (te : TE) : TE := fun σ H Q => te σ H fun x H1 => ∃ a xs, x = .ref a ∧ ((SqL K H1 a xs ∧ ∀ p, H1 p = none → Q (.ref p) (upd H1 p (.lst xs.reverse))) ∨ (SqT K H1 a xs ∧ ∀ p, H1 p = none → Q (.ref p) (upd H1 p (.tup xs.reverse))))
section
open PySem.Spec PyProof.Rows
variable {X : Cx}
theorem pe_revA {e : Expr} {te : TE} {kk : Nat} {q1 q2 q3 pos : Pos} (he : PE X e te) : PE X (.Subscript e (.Slice none none (some (.UnaryOp .USub (.Constant (.int 1) kk q1) q2)) q3) pos) (tRevA X.K te) := by
  constructor
  intro pins s σ H Q I h
  refine Subscript_ (thn (he.run pins s σ H _ I h) ?_)
  rintro v s1 ⟨x, H1, I1, r1, a, xs, rfl, q⟩
  cases r1
  have hst : PO X (some (.UnaryOp .USub (.Constant (.int 1) kk q1) q2)) (tPart (tUn (rU fun i => .int (-i)) (tC (.int 1)))) := po_some (pe_un un_neg pe_int)
  refine wpAny_Slice (thn (po_none.run pins s1 σ H1 (fun o Ha => o = none ∧ Ha = H1) I1 ⟨rfl, rfl⟩) ?_)
  rintro vl s2 ⟨l, H2, I2, pl, rfl, rfl⟩
  refine thn (po_none.run pins s2 σ H2 (fun o Hb => o = none ∧ Hb = H2) I2 ⟨rfl, rfl⟩) ?_
  rintro vu s3 ⟨u, H3, I3, pu, rfl, rfl⟩
  refine thn (hst.run pins s3 σ H3 (fun o Hc => o = some (-1) ∧ Hc = H3) I3 ⟨1, rfl, -1, rfl, rfl, rfl⟩) ?_
  rintro vs s4 ⟨o, H4, I4, ps, rfl, rfl⟩
  have I5 : Inv X pins σ H4 { s4 with heap := s4.heap.push { cls := .type "slice", data := .fields #[vl, vu, vs] } } := I4.kept (t' := s4.toks) fun b ob z => Heap.get?_push_of_some _ z
  have ho := Heap.IsSliceOf.new s4.heap vl vu vs
  rcases q with ⟨hx, q⟩ | ⟨hx, q⟩
  · obtain ⟨its, r, ht, hz⟩ := I5.list hx
    have hlen := r.length
    refine tail_any (ops := [.ref a, .ref s4.heap.objs.size]) ht.isList.typeIs (PySem.slot_list_getitem.lookup) ?_ (by with_unfolding_all rfl)
    refine wpAny_getItem_list_slice ht.isList ho pl pu ps (by decide) ?_ (by rw [List.size_toArray]; omega)
    rw [PySem.W.krv_pick]
    refine ⟨.ref _, _, I5.laid (t' := s4.toks) (o := .lst xs.reverse) (fun b ob z => Heap.get?_push_of_some _ z) (Nat.le_refl _) ?_, rfl, q _ (I5.hok.fresh (Nat.le_refl _))⟩
    exact ⟨by rw [List.length_reverse]; exact hz, _, 0, r.reverse, Heap.get?_push_size _ rfl⟩
  · obtain ⟨its, r, ht, hz⟩ := I5.tuple hx
    have hlen := r.length
    refine tail_any (ops := [.ref a, .ref s4.heap.objs.size]) ht.typeIs (PyProof.Rows.slot_tuple_getitem.lookup) ?_ (by with_unfolding_all rfl)
    refine getItem_tuple_rev ht ho pl pu ps ?_ (by rw [List.size_toArray]; omega)
    refine ⟨.ref _, _, I5.laid (t' := s4.toks) (o := .tup xs.reverse) (fun b ob z => Heap.get?_push_of_some _ z) (Nat.le_refl _) ?_, rfl, q _ (I5.hok.fresh (Nat.le_refl _))⟩
    exact ⟨by rw [List.length_reverse]; exact hz, _, r.reverse, IsTup.new _ _⟩
end
end Dl
namespace Dl
open PySem L2
section
variable {X : Cx}
theorem de_rev {e : Expr} {te : DTE} {kk : Nat} {q1 q2 q3 pos : Pos} (he : DE X e te) : DE X (.Subscript e (.Slice none none (some (.UnaryOp .USub (.Constant (.int 1) kk q1) q2)) q3) pos) (dRev te) := by
  refine (pe_revA he).imp fun σ H Q ⟨ρ, G, q, r, h, k⟩ => ?_
  refine ⟨ρ, G, _, r, h, fun x dx H1 G1 e1 r1 v1 h1 => ?_⟩
  have lcase : ∀ (a : Addr) (xs : List V) (ds : List D), x = .ref a → SqL X.K H1 a xs → RepL X.K G1 H1 ds xs → (∀ p, G1 p = none → q (.ref p) (updG G1 p (.lst ds.reverse))) →
      ∃ a xs, x = .ref a ∧ ((SqL X.K H1 a xs ∧ ∀ p, H1 p = none → Q (.ref p) (upd H1 p (.lst xs.reverse))) ∨ (SqT X.K H1 a xs ∧ ∀ p, H1 p = none → Q (.ref p) (upd H1 p (.tup xs.reverse)))) := by
    intro a xs ds ex hq rl hk
    refine ⟨a, xs, ex, .inl ⟨hq, fun p hp => ?_⟩⟩
    obtain ⟨e2, r2, v2⟩ := r1.newLst hp rl.reverse
    exact k _ _ _ _ (e1.trans e2) r2 v2 (hk p (r1.gok.fresh hp))
  cases dx with
  | tup ds =>
    obtain ⟨a, xs, ex, t, rl⟩ := tp_at v1
    refine ⟨a, xs, ex, .inr ⟨t, fun p hp => ?_⟩⟩
    obtain ⟨e2, r2, v2⟩ := r1.newTup hp rl.reverse
    exact k _ _ _ _ (e1.trans e2) r2 v2 h1
  | lst ds =>
    unfold RepV at v1
    obtain ⟨a, xs, ex, t, rl⟩ := v1
    exact lcase a xs ds ex t.sq rl h1
  | ref a =>
    cases rv_ref v1
    dsimp only [rRev] at h1
    cases hg : G1 a with
    | none => rw [hg] at h1; exact h1.elim
    | some o =>
      rw [hg] at h1
      cases o with
      | lst ds =>
        obtain ⟨xs, h3, h4⟩ := r1.gok a _ hg
        exact lcase a xs ds rfl (SqL.of h3) h4 h1
      | _ => exact h1.elim
  | _ => exact h1.elim
theorem iRev {te : DTE} {ρ : DSt} {G : GH} {Q : DK} (h : te ρ G fun x G1 => rRev x G1 Q) : dRev te ρ G Q := h
theorem revT {ds : List D} {G : GH} {Q : DK} (h : Q (.tup ds.reverse) G) : rRev (.tup ds) G Q := h
theorem revL {ds : List D} {G : GH} {Q : DK} (h : ∀ p, G p = none → Q (.ref p) (updG G p (.lst ds.reverse))) : rRev (.lst ds) G Q := h
theorem iCallG {sp : DSp} {n m : Nat} {src : List (Nat × Nat)} {dv : List D} {ta tk : DTA} {ρ : DSt} {G : GH} {Q : DK} (h : ta ρ G fun ds G1 => tk ρ G1 fun es G2 => ds.length = n ∧ es.length = m ∧ sp (pick src ds dv es) G2 Q noX) : dCallG sp n m src dv ta tk ρ G Q := h
theorem allC_i {l : List D} {bs : List Bool} {G : GH} {Q : DK} (e : bolsD l = some bs) (h : Q (.bl (bs.all id)) G) : rAllC [.lst l] G Q := by
  unfold rAllC arg1 bolsP lsOf
  dsimp only
  rw [e]
  exact h
theorem bolsD_map : ∀ bs : List Bool, bolsD (bs.map D.bl) = some bs
  | [] => rfl
  | b :: bs => by rw [List.map_cons, bolsD, bolsD_map bs]; rfl
end
end Dl

namespace Dl
open PySem L2
structure ShwA (d : D) : Prop where
  ok : okD d
  few : fewD d = true
  len : (shD d).length ≤ sizeLine
theorem Shw.a {d : D} (h : Shw d) : ShwA d := ⟨h.ok, h.few, h.len⟩
section
variable {X : Cx}
end
end Dl

namespace Dl
open PySem L2
def cleanC (c : Nat) : Bool := (48 ≤ c && c ≤ 57) || (65 ≤ c && c ≤ 90) || c == 95 || (97 ≤ c && c ≤ 122)
def cleanS (x : Str) : Bool := x.cps.toList.all cleanC
mutual
def cleanD : D → Bool
  | .non => true
  | .bl _ => true
  | .int _ => true
  | .str x => cleanS x
  | .tup ds => cleanDs ds
  | .lst ds => cleanDs ds
  | _ => false
def cleanDs : List D → Bool
  | [] => true
  | d :: ds => cleanD d && cleanDs ds
end
end Dl

namespace Dl
open PySem L2
theorem ifNDT {A B p : Prop} [Decidable p] (h : p) (b : B) : if (!decide p) = true then A else B := by rw [decide_eq_true h, if_neg (by decide)]; exact b
theorem ifNDF {A B p : Prop} [Decidable p] (h : ¬ p) (a : A) : if (!decide p) = true then A else B := by rw [decide_eq_false h, if_pos (by decide)]; exact a
theorem iNeg {te : DTE} {ρ : DSt} {G : GH} {Q : DK} (h : te ρ G fun d G1 => match d with
  | .int i => Q (.int (-i)) G1
  | _ => False) : dNeg te ρ G Q := h
theorem isN_T {G : GH} {Q : DK} (h : Q (.bl true) G) : rIsN id .non .non G Q := h
theorem isN_F {d : D} {G : GH} {Q : DK} (e : isNonD d = false) (h : Q (.bl false) G) : rIsN id d .non G Q := by
  show Q (.bl (id (isNonD d))) G
  rw [e]; exact h
end Dl

namespace Dl
open PySem L2
section
variable {X : Cx}
end
section
variable {X : Cx}
end
end Dl

namespace Dl
open PySem L2
theorem Callee.weak {P : Program} {w : World} {K : PySem.W.Frag} {mg : Str → Option Value} {base : Heap} {k : Nat} {x : Str} {ps : List Str} {sp sp' : DSp} (C : Callee P w K mg base k x ps sp) (h : ∀ ds G Q E, sp' ds G Q E → sp ds G Q E) : Callee P w K mg base k x ps sp' := by
  obtain ⟨f, fd, F, a⟩ := C.ex
  exact ⟨f, fd, F.weaken (fun xs H Q E ⟨ds, G, q, e, r, g, hs, k1, k2⟩ => ⟨ds, G, q, e, r, g, h _ _ _ _ hs, k1, k2⟩), a⟩
end Dl

namespace Dl
open PySem PySem.Spec PyProof.Rows L2
section
variable {prog : Program} {w : World} {A : Around} {R : Result → Shared → Prop} {s : Shared} {env : Env} {elt ta ia tb ib : Expr} {sc : Scope} {pos : Pos} {it acc : Value}
abbrev calmly (P : Program) (w : World) (A : Around) {α : Type} (t : Sem α) (Q : α → Shared → Prop) (s : Shared) : Prop := wpAny (model P w) A t Q (fun _ _ => False) s
theorem calmly.go {P : Program} {α : Type} {t : Sem α} {Q Q' : α → Shared → Prop} {E : Value → Shared → Prop} (h : calmly P w A t Q s) (k : ∀ a s', Q a s' → Q' a s') : wpAny (model P w) A t Q' E s :=
  wpAny_mono h k fun _ _ z => z.elim
end
end Dl

namespace Dl
open PySem PySem.Spec PyProof.Rows L2
section
variable {Y : Cx} {tg : Expr} {J : It} {fp : List Addr} {it : Addr} {tn : Nat → Heap → Prop} {pins : List (Addr × Obj)} {σ : L2.St} {H : Hp} {s : Shared} {g : TG}
end
section
variable {X : Cx}
end
end Dl

namespace Dl
open PySem PySem.Spec PyProof.Rows L2
section
variable {P : Program} {w : World} {A : Around} {E : Value → Shared → Prop} {s : Shared}
end
end Dl

namespace Dl
open PySem PySem.Spec PyProof.Rows L2
section
variable {P : Program} {w : World} {A : Around} {E : Value → Shared → Prop} {s : Shared} {a : Addr}
end
section
variable {X : Cx}
end
end Dl

namespace Dl
open PySem L2
section
variable {K : PySem.W.Frag} {w : World}
end
section
variable {X : Cx}
end
end Dl

namespace Dl
open PySem L2
section
variable {X : Cx}
end
section
variable {te ta tb : DTE} {ρ : DSt} {G : GH} {Q : DK}
end
end Dl

namespace Dl
open PySem L2
structure FCallee (P : Program) (w : World) (K : PySem.W.Frag) (mg : Str → Option Value) (base : Heap) (k : Nat) (x : Str) (ps : List Str) (sp : DSp) : Prop where
  ex : ∃ f fd, FnOk P w K mg base CX0 k f fd ps (toSp K sp) ∧ mg x = some (.ref f) ∧ PySem.W.keepIn K (.ref f) = true ∧ Binds K fd ps [] ∧ KwB K fd ps ps (fun l => l)
section
variable {P : Program} {w : World} {K : PySem.W.Frag} {mg : Str → Option Value} {base : Heap} {j k : Nat} {x : Str} {ps : List Str} {sp : DSp}
end
section
variable {X : Cx} {k : Nat} {x : Str} {ps : List Str} {sp : DSp} {p pos : Pos} {e : Expr} {es : List Expr} {ta : DTA}
end
section
variable {P : Program} {w : World} {K : PySem.W.Frag} {mg : Str → Option Value} {base : Heap} {x qual : Str} {params : Arguments} {body : List Stmt} {scope : Scope} {f : Addr} {fd : FuncData} {N ps : List Str} {k : Nat} {sp : DSp} {t : DTS}
end
end Dl

namespace Dl
open PySem L2
section
variable {X : Cx}
end
structure DGE where
  nx : List D → DSt → GH → Prop
  rt : List D → DK
  bk : List D → DSt → GH → Prop := fun _ _ _ => False
  ct : List D → DSt → GH → Prop := fun _ _ _ => False
abbrev DTY := DGE → List D → DSt → GH → Prop
section
variable {X : Cx}
end
end Dl

namespace Dl
open PySem L2
abbrev DSpG := List D → GH → (List D → GH → Prop) → Prop
def toSpG (K : PySem.W.Frag) (sp : DSpG) : SpG := fun vs H Qv _ => ∃ ds G q, RepL K G H ds vs ∧ GOk K G H ∧ sp ds G q ∧
  ∀ zs es H' G', Ext G H G' H' → GOk K G' H' → RepL K G' H' es zs → q es G' → Qv zs H'
structure GCallee (P : Program) (w : World) (K : PySem.W.Frag) (mg : Str → Option Value) (base : Heap) (k : Nat) (x : Str) (ps : List Str) (sp : DSpG) : Prop where
  ex : ∃ j f fd, j + 3 ≤ k ∧ L2.GFn P w K mg base j f fd ps (toSpG K sp) ∧ mg x = some (.ref f) ∧ PySem.W.keepIn K (.ref f) = true ∧ Binds K fd ps []
section
variable {P : Program} {w : World} {K : PySem.W.Frag} {mg : Str → Option Value} {base : Heap} {j k : Nat} {x : Str} {ps : List Str} {sp : DSpG}
variable {qual : Str} {params : Arguments} {body : List Stmt} {scope : Scope} {f : Addr} {fd : FuncData} {N : List Str} {t : DTY}
end
section
variable {X : Cx} {k : Nat} {x : Str} {ps : List Str} {sp : DSpG} {p p2 pos pos2 : Pos} {e : Expr} {es : List Expr} {ta : DTA}
end
section
variable {X : Cx}
end
end Dl

namespace Dl
open PySem L2
mutual
theorem plain_py : ∀ d : D, (pyD d).plain = true
  | .non => rfl
  | .bl _ => rfl
  | .int _ => rfl
  | .str _ => rfl
  | .tup ds => by rw [pyD, PyData.plain]; exact plains_py ds
  | .lst ds => by rw [pyD, PyData.plain]; exact plains_py ds
  | .byt _ => rfl
  | .ref _ => rfl
  | .scr _ => rfl
  | .fn _ _ _ _ => rfl
  | .exh _ _ _ _ _ => rfl
theorem plains_py : ∀ ds : List D, PyData.plainAll (pyDs ds) = true
  | [] => rfl
  | d :: ds => by rw [pyDs, PyData.plainAll, plain_py d, plains_py ds]; rfl
end
theorem any_py {x : D} (hx : pureD x = true) : ∀ {ds : List D}, pureDs ds = true → ((pyDs ds).any fun y => PyData.eqv y (pyD x)) = inD x ds
  | [], _ => rfl
  | d :: ds, h => by
    rw [pureDs, Bool.and_eq_true] at h
    have ih := any_py hx h.2
    unfold inD at ih ⊢
    rw [pyDs, List.any_cons, List.any_cons, ih, eqv_py d x h.1 hx]
section
variable {X : Cx}
theorem vw_pure {G : GH} {d : D} (h : pureD d = true) : vw G d = d := by
  cases d with
  | ref a => simp [pureD] at h
  | _ => rfl
end
end Dl

namespace Dl
open PySem L2
section
variable {X : Cx}
def rInT (f : Bool → Bool) : DR2 := fun x y G Q => match y with
  | .tup ds => okD x ∧ okD (.tup ds) ∧ Q (.bl (f (inD x ds))) G
  | _ => False
theorem o_inT (hu : X.A.units + 70 < cLine) : DOp X (compareOp .In) (rInT id) := by
  intro pins s σ H x y v u Q I rx ry ⟨G, dx, dy, q, g, r1, r2, h, k⟩
  cases dy with
  | tup ds =>
    obtain ⟨h1, h2, h3⟩ := h
    have a1 := vw_dp g r1 (by rw [vw_pure h1.1]; exact h1.1)
    have a2 := vw_dp g r2 (by rw [vw_pure h2.1]; exact h2.1)
    rw [vw_pure h1.1] at a1
    rw [vw_pure h2.1, pyD] at a2
    obtain ⟨as, ra⟩ := Dp.reads I _ x v a1 rx
    obtain ⟨bs, rb⟩ := Dp.reads I _ y u a2 ry
    have hd : (pyD dx).depth ≤ 64 := by rw [depth_py]; exact h1.2
    refine SeqAt.in_tuple_data rb ra (plains_py ds) (plain_py dx) (by omega) ⟨.bl _, H, I, rfl, ?_⟩
    rw [any_py h1.1 (by have := h2.1; rwa [pureD] at this)]
    exact k _ _ H G (Ext.refl G H) g bl_rv h3
  | _ => exact h.elim
theorem o_notinT (hu : X.A.units + 70 < cLine) : DOp X (compareOp .NotIn) (rInT not) := by
  intro pins s σ H x y v u Q I rx ry ⟨G, dx, dy, q, g, r1, r2, h, k⟩
  cases dy with
  | tup ds =>
    obtain ⟨h1, h2, h3⟩ := h
    have a1 := vw_dp g r1 (by rw [vw_pure h1.1]; exact h1.1)
    have a2 := vw_dp g r2 (by rw [vw_pure h2.1]; exact h2.1)
    rw [vw_pure h1.1] at a1
    rw [vw_pure h2.1, pyD] at a2
    obtain ⟨as, ra⟩ := Dp.reads I _ x v a1 rx
    obtain ⟨bs, rb⟩ := Dp.reads I _ y u a2 ry
    have hd : (pyD dx).depth ≤ 64 := by rw [depth_py]; exact h1.2
    refine SeqAt.notIn_tuple_data rb ra (plains_py ds) (plain_py dx) (by omega) ⟨.bl _, H, I, rfl, ?_⟩
    rw [any_py h1.1 (by have := h2.1; rwa [pureD] at this)]
    exact k _ _ H G (Ext.refl G H) g bl_rv h3
  | _ => exact h.elim
end
end Dl

namespace Dl
open PySem L2 PySem.W PySem.SeqAt PyProof.Rows
open AutoSeq1 (wpAny_loadPart')
open MeetsSeq MeetsSeq2 MeetsSeq3 SeqRoads2
structure LtAsk (A : Around) (s : Shared) (p q : Array Value) (e r : Nat → Bool) : Prop where
  eq : ∀ j (h1 : j < p.size) (h2 : j < q.size), (∀ i, i < j → e i = true) → EqAt A s p[j] q[j] (e j)
  lt : ∀ j (h1 : j < p.size) (h2 : j < q.size), (∀ i, i < j → e i = true) → e j = false → RcLt A s p[j] q[j] (r j)
abbrev ltFrom (p q : Array Value) (e r : Nat → Bool) (i : Nat) : Bool := firstLt e r (decide (p.size < q.size)) ((List.range (min p.size q.size)).drop i)
theorem lt_meets (l b : Addr) (p q : Array Value) (n m : Nat) (d1 d2 : Option Addr) (t1 t2 : Array (Option Value)) (e r : Nat → Bool) :
    Meets (Builtin.«tuple.__lt__» ⟨[.ref l, .ref b], []⟩)
      (fun A R s => s.heap.get? l = some { cls := .type "tuple", dict := d1, data := .seq p n, slots := t1 } ∧
        s.heap.get? b = some { cls := .type "tuple", dict := d2, data := .seq q m, slots := t2 } ∧
        LtAsk A.in1 s p q e r ∧ R (.ok (.ret (.bool (ltFrom p q e r 0)))) s) :=
  .of_wp fun prog w A R s h => by
    obtain ⟨hp, g, d, tk, os⟩ := s
    obtain ⟨hl, hb, ask, fin⟩ := h
    have sub2 := AutoSeq1.sub_tuple_tuple
    have hZ : (p.toList.zip q.toList).length = min p.size q.size := by simp
    wp_walk using wpAny_loadPart' hl, wpAny_loadPart' hb, wpAny_forIn_list _ (fun rest c s' => c.1 = none ∧ s' = ⟨hp, g, d, tk, os⟩ ∧ ∃ i, rest = (p.toList.zip q.toList).drop i ∧
      (∀ k, k < i → e k = true) ∧ R (.ok (.ret (.bool (ltFrom p q e r i)))) ⟨hp, g, d, tk, os⟩) _
    case turn =>
      rintro ⟨y, x⟩ rest c s' ⟨hc, rfl, i, hz, hpre, hR⟩
      have hlt : i < (p.toList.zip q.toList).length := by
        rcases Nat.lt_or_ge i (p.toList.zip q.toList).length with z | z
        · exact z
        · rw [List.drop_of_length_le z] at hz; cases hz
      have hm : i < min p.size q.size := by omega
      have h1 : i < p.size := by omega
      have h2 : i < q.size := by omega
      rw [List.drop_eq_getElem_cons hlt] at hz
      injection hz with hyx hrest
      obtain rfl : y = p[i] := by simpa using congrArg Prod.fst hyx
      obtain rfl : x = q[i] := by simpa using congrArg Prod.snd hyx
      have hd : (List.range (min p.size q.size)).drop i = i :: (List.range (min p.size q.size)).drop (i + 1) := by
        simp [List.drop_eq_getElem_cons, hm]
      unfold ltFrom at hR
      rw [hd] at hR
      refine wpAny_bind (ask.eq i h1 h2 hpre prog w _ _ ?_)
      cases hy : e i with
      | true =>
        rw [firstLt_yes hy] at hR
        wp_walk
        refine ⟨rfl, rfl, i + 1, hrest, fun k hk => ?_, hR⟩
        rcases Nat.lt_or_ge k i with z | z
        · exact hpre k z
        · rw [show k = i from by omega]; exact hy
      | false =>
        rw [firstLt_no hy] at hR
        have go := ask.lt i h1 h2 hpre hy
        unfold RcLt at go
        generalize hg : @PySem.richCompare = rc at go ⊢
        wp_walk
        refine go prog w _ _ ?_
        wp_walk
        exact ⟨_, rfl, hR⟩
    case fin =>
      rintro ⟨c1, c2⟩ s' ⟨hc, rfl, i, hz, hpre, hR⟩
      simp only at hc
      subst hc
      have hge : min p.size q.size ≤ i := by
        rcases Nat.lt_or_ge i (p.toList.zip q.toList).length with z | z
        · rw [List.drop_eq_getElem_cons z] at hz; cases hz
        · omega
      unfold ltFrom at hR
      rw [List.drop_of_length_le (by simpa using hge)] at hR
      wp_walk
      exact ⟨_, rfl, by simpa [Builtin.Tuple.tupleCompareSizes, firstLt] using hR⟩
    case h =>
      exact ⟨rfl, rfl, 0, rfl, fun k hk => absurd hk (Nat.not_lt_zero _), fin⟩
theorem rcTup {A : Around} {s : Shared} {l b : Addr} {p q : Array Value} {e r : Nat → Bool} (hl : s.heap.IsTuple l p) (hb : s.heap.IsTuple b q) (hu : A.units < cLine) (ask : LtAsk A.in1 s p q e r) :
    RcLt A s (.ref l) (.ref b) (ltFrom p q e r 0) := fun prog w E Q h => by
  obtain ⟨⟨c1, d1, t1, s1⟩, ho, hc, n, hd⟩ := id hl
  obtain ⟨⟨c2, d2, t2, s2⟩, ho2, hc2, m, hd2⟩ := id hb
  simp only at hc hd hc2 hd2
  subst hc hd hc2 hd2
  refine richCompare_meets_room (op := .Lt) ⟨_, ho, rfl⟩ ⟨_, ho2, rfl⟩ F.slot_tuple_lt F.entry_tuple_lt (F.args_tuple_lt_2 _ _) (lt_meets l b p q n m d1 d2 s1 s2 e r) ⟨ho, ho2, ask, ?_⟩ hu
  exact show Value.bool _ ≠ Value.notImplemented ∧ _ from ⟨(fun x => nomatch x), h⟩
end Dl

namespace Dl
open PySem L2 PySem.W PySem.SeqAt PyProof.Rows
mutual
/-- of like kinds as far as they agree, and where they first differ -/
def cmpb : PyData → PyData → Bool
  | .bool _, .bool _ => true
  | .int _, .int _ => true
  | .str _, .str _ => true
  | .tuple xs, .tuple ys => cmpbs xs ys
  | _, _ => false
def cmpbs : List PyData → List PyData → Bool
  | x :: xs, y :: ys => cmpb x y && (!PyData.eqv x y || cmpbs xs ys)
  | _, _ => true
end
abbrev tlt (a b : List (Int ⊕ List Nat)) : Bool := lexLt itemOrd a b
theorem tlt_atom {t u : Int ⊕ List Nat} (h : t ≠ u) (l m : List (Int ⊕ List Nat)) : tlt ([t] ++ l) ([u] ++ m) = tlt [t] [u] := by
  show lexLt itemOrd (t :: l) (u :: m) = lexLt itemOrd [t] [u]
  rw [lex_diff (O := itemOrd) h, lex_diff (O := itemOrd) h]
theorem cmpbs_cons {x y : PyData} {xs ys : List PyData} (h : cmpbs (x :: xs) (y :: ys) = true) : cmpb x y = true ∧ (PyData.eqv x y = true → cmpbs xs ys = true) := by
  rw [cmpbs, Bool.and_eq_true] at h
  refine ⟨h.1, fun e => ?_⟩
  have := h.2
  rw [e] at this
  simpa using this
mutual
theorem toks_c : ∀ x y : PyData, cmpb x y = true → (PyData.eqv x y = true → keyToks x = keyToks y) ∧ (PyData.eqv x y = false → ∀ l m, tlt (keyToks x ++ l) (keyToks y ++ m) = tlt (keyToks x) (keyToks y))
  | .bool a, y, h => by
    cases y with
    | bool b =>
      simp only [keyToks, PyData.eqv]
      refine ⟨fun e => ?_, fun e l m => tlt_atom ?_ l m⟩
      · have : a = b := by simpa using e
        rw [this]
      · cases a <;> cases b <;> simp at e ⊢
    | _ => simp [cmpb] at h
  | .int a, y, h => by
    cases y with
    | int b =>
      simp only [keyToks, PyData.eqv]
      refine ⟨fun e => ?_, fun e l m => tlt_atom ?_ l m⟩
      · have : a = b := by simpa using e
        rw [this]
      · have : a ≠ b := by simpa using e
        simpa using this
    | _ => simp [cmpb] at h
  | .str a, y, h => by
    cases y with
    | str b =>
      simp only [keyToks, PyData.eqv]
      refine ⟨fun e => ?_, fun e l m => tlt_atom ?_ l m⟩
      · have : a = b := by simpa using e
        rw [this]
      · have : a ≠ b := by simpa using e
        intro z
        exact this (str_of_cps (by simpa using z))
    | _ => simp [cmpb] at h
  | .tuple xs, y, h => by
    cases y with
    | tuple ys =>
      simp only [keyToks, PyData.eqv]
      exact toks_cs xs ys (by simpa [cmpb] using h)
    | _ => simp [cmpb] at h
  | .none, y, h => by cases y <;> simp [cmpb] at h
  | .list _, y, h => by cases y <;> simp [cmpb] at h
  | .dict _, y, h => by cases y <;> simp [cmpb] at h
theorem toks_cs : ∀ xs ys : List PyData, cmpbs xs ys = true → (PyData.eqvAll xs ys = true → keyToksAll xs = keyToksAll ys) ∧ (PyData.eqvAll xs ys = false → ∀ l m, tlt (keyToksAll xs ++ l) (keyToksAll ys ++ m) = tlt (keyToksAll xs) (keyToksAll ys))
  | [], [], _ => ⟨fun _ => rfl, fun e => by simp [PyData.eqvAll] at e⟩
  | [], y :: ys, _ => by
    refine ⟨fun e => by simp [PyData.eqvAll] at e, fun _ l m => ?_⟩
    rw [toks_all_cons]
    simp only [keyToksAll, List.cons_append]
    show lexLt itemOrd _ _ = lexLt itemOrd _ _
    rw [lex_diff (O := itemOrd) (by simp), lex_diff (O := itemOrd) (by simp)]
  | x :: xs, [], _ => by
    refine ⟨fun e => by simp [PyData.eqvAll] at e, fun _ l m => ?_⟩
    rw [toks_all_cons]
    simp only [keyToksAll, List.cons_append]
    show lexLt itemOrd _ _ = lexLt itemOrd _ _
    rw [lex_diff (O := itemOrd) (by simp), lex_diff (O := itemOrd) (by simp)]
  | x :: xs, y :: ys, h => by
    obtain ⟨h1, h2⟩ := cmpbs_cons h
    have k1 := toks_c x y h1
    rw [eqv_all_cons, toks_all_cons, toks_all_cons]
    cases e : PyData.eqv x y with
    | true =>
      have k2 := toks_cs xs ys (h2 e)
      rw [Bool.true_and, k1.1 e]
      refine ⟨fun e2 => by rw [k2.1 e2], fun e2 l m => ?_⟩
      have := k2.2 e2 l m
      simp only [List.cons_append, List.append_assoc]
      show lexLt itemOrd _ _ = lexLt itemOrd _ _
      rw [lex_self, lex_self, lex_pre, lex_pre]
      exact this
    | false =>
      refine ⟨fun e2 => by simp at e2, fun _ l m => ?_⟩
      simp only [List.cons_append, List.append_assoc]
      show lexLt itemOrd _ _ = lexLt itemOrd _ _
      rw [lex_self, lex_self]
      exact (k1.2 e _ _).trans (k1.2 e _ _).symm
end
theorem tlt_yes {x y : PyData} {xs ys : List PyData} (h : cmpb x y = true) (e : PyData.eqv x y = true) : tlt (keyToksAll (x :: xs)) (keyToksAll (y :: ys)) = tlt (keyToksAll xs) (keyToksAll ys) := by
  rw [toks_all_cons, toks_all_cons, (toks_c x y h).1 e]
  show lexLt itemOrd _ _ = lexLt itemOrd _ _
  rw [lex_self, lex_pre]
theorem tlt_no {x y : PyData} {xs ys : List PyData} (h : cmpb x y = true) (e : PyData.eqv x y = false) : tlt (keyToksAll (x :: xs)) (keyToksAll (y :: ys)) = dataLt x y := by
  rw [toks_all_cons, toks_all_cons]
  show lexLt itemOrd _ _ = lexLt itemOrd _ _
  rw [lex_self]
  exact (toks_c x y h).2 e _ _
theorem tlt_short (y : PyData) (ys : List PyData) : tlt (keyToksAll []) (keyToksAll (y :: ys)) = true ∧ tlt (keyToksAll (y :: ys)) (keyToksAll []) = false := by
  rw [toks_all_cons]
  simp only [keyToksAll]
  constructor
  · show lexLt itemOrd _ _ = true
    rw [lex_diff (O := itemOrd) (by simp)]; decide
  · show lexLt itemOrd _ _ = false
    rw [lex_diff (O := itemOrd) (by simp)]; decide
theorem first_c : ∀ xs ys : List PyData, cmpbs xs ys = true →
    firstLt (pairEq xs ys) (fun j => dataLt (xs.getD j .none) (ys.getD j .none)) (decide (xs.length < ys.length)) (List.range (min xs.length ys.length)) = tlt (keyToksAll xs) (keyToksAll ys)
  | [], [], _ => by simp [firstLt, lex_irrefl]
  | [], y :: ys, _ => by rw [(tlt_short y ys).1]; simp [firstLt]
  | x :: xs, [], _ => by rw [(tlt_short x xs).2]; simp [firstLt]
  | x :: xs, y :: ys, h => by
    obtain ⟨h1, h2⟩ := cmpbs_cons h
    rw [show min (x :: xs).length (y :: ys).length = min xs.length ys.length + 1 from by simp only [List.length_cons]; omega, List.range_succ_eq_map,
      show decide ((x :: xs).length < (y :: ys).length) = decide (xs.length < ys.length) from by rw [decide_eq_decide]; simp only [List.length_cons]; omega]
    cases e : PyData.eqv x y with
    | true =>
      rw [firstLt_yes (show pairEq (x :: xs) (y :: ys) 0 = true from e), firstLt_map, tlt_yes h1 e, ← first_c xs ys (h2 e)]
      rfl
    | false =>
      rw [firstLt_no (show pairEq (x :: xs) (y :: ys) 0 = false from e), tlt_no h1 e]
      rfl
mutual
/-- a < b of such data -/
theorem rc_c : ∀ (da db : PyData) (A : Around) (s : Shared) (a b : Value) (as bs : List Addr), Reads s.heap a da as → Reads s.heap b db bs → cmpb da db = true → da.plain = true → db.plain = true →
    A.units + min da.depth db.depth < cLine → RcLt A s a b (dataLt da db)
  | .bool x, db, A, s, a, b, as, bs, ra, rb, h, _, _, _ => by
    cases db with
    | bool y => cases ra; cases rb; intro prog w E Q q; rw [dataLt_bool] at q; exact lt_bool q
    | _ => simp [cmpb] at h
  | .int x, db, A, s, a, b, as, bs, ra, rb, h, _, _, _ => by
    cases db with
    | int y => cases ra; cases rb; intro prog w E Q q; rw [dataLt_int] at q; exact PyProof.Rows.lt_int q
    | _ => simp [cmpb] at h
  | .str x, db, A, s, a, b, as, bs, ra, rb, h, _, _, _ => by
    cases db with
    | str y => cases ra; cases rb; intro prog w E Q q; rw [dataLt_str] at q; exact PyProof.Rows.lt_str q
    | _ => simp [cmpb] at h
  | .tuple xs, db, A, s, a, b, as, bs, ra, rb, h, pa, pb, hu => by
    cases db with
    | tuple ys =>
      have hc : cmpbs xs ys = true := by simpa [cmpb] using h
      have pa' : PyData.plainAll xs = true := by simpa [PyData.plain] using pa
      have pb' : PyData.plainAll ys = true := by simpa [PyData.plain] using pb
      cases ra with
      | @tuple l o p n _ _ h1 h2 h3 h4 =>
        cases rb with
        | @tuple l' o' q m _ _ k1 k2 k3 k4 =>
          have n1 : p.size = xs.length := by simpa using ReadsAll.length _ _ _ h4
          have n2 : q.size = ys.length := by simpa using ReadsAll.length _ _ _ k4
          rw [dataLt_tuple, show lexLt itemOrd (keyToksAll xs) (keyToksAll ys) = tlt (keyToksAll xs) (keyToksAll ys) from rfl, ← first_c xs ys hc, ← n1, ← n2]
          refine rcTup (e := pairEq xs ys) (r := fun j => dataLt (xs.getD j .none) (ys.getD j .none)) ⟨_, h1, h2, _, h3⟩ ⟨_, k1, k2, _, k3⟩ (room_here hu) ⟨fun j j1 j2 _ => ?_, fun j j1 j2 hp hj => ?_⟩
          · have := eqAt_plainAll xs ys A.in1 s p.toList q.toList _ _ h4 k4 pa' pb' (room_in hu) j (by simpa using j1) (by simpa using j2)
            simpa using this
          · have := rc_cs xs ys A.in1 s p.toList q.toList _ _ h4 k4 hc pa' pb' (room_in hu) j (by simpa using j1) (by simpa using j2) hp hj
            simpa using this
    | _ => simp [cmpb] at h
  | .none, db, _, _, _, _, _, _, _, _, h, _, _, _ => by cases db <;> simp [cmpb] at h
  | .list _, db, _, _, _, _, _, _, _, _, h, _, _, _ => by cases db <;> simp [cmpb] at h
  | .dict _, db, _, _, _, _, _, _, _, _, h, _, _, _ => by cases db <;> simp [cmpb] at h
theorem rc_cs : ∀ (xs ys : List PyData) (A : Around) (s : Shared) (vs ws : List Value) (as bs : List Addr), ReadsAll s.heap vs xs as → ReadsAll s.heap ws ys bs → cmpbs xs ys = true → PyData.plainAll xs = true → PyData.plainAll ys = true →
    A.units + min (PyData.depthAll xs) (PyData.depthAll ys) < cLine → ∀ j (h1 : j < vs.length) (h2 : j < ws.length), (∀ i, i < j → pairEq xs ys i = true) → pairEq xs ys j = false → RcLt A s vs[j] ws[j] (dataLt (xs.getD j .none) (ys.getD j .none))
  | [], _, _, _, _, _, _, _, ra, _, _, _, _, _, j, h1, _, _, _ => by cases ra; exact absurd h1 (Nat.not_lt_zero _)
  | _ :: _, [], _, _, _, _, _, _, _, rb, _, _, _, _, j, _, h2, _, _ => by cases rb; exact absurd h2 (Nat.not_lt_zero _)
  | x :: xs, y :: ys, A, s, _, _, _, _, ra, rb, h, pa, pb, hu, j, h1, h2, hp, hj => by
    obtain ⟨c1, c2⟩ := cmpbs_cons h
    have pa' : x.plain = true ∧ PyData.plainAll xs = true := by simpa [PyData.plainAll] using pa
    have pb' : y.plain = true ∧ PyData.plainAll ys = true := by simpa [PyData.plainAll] using pb
    cases ra with
    | cons r rs =>
      cases rb with
      | cons r' rs' =>
        cases j with
        | zero => exact rc_c x y A s _ _ _ _ r r' c1 pa'.1 pb'.1 (room_head hu)
        | succ j =>
          have e0 : PyData.eqv x y = true := hp 0 (Nat.succ_pos _)
          exact rc_cs xs ys A s _ _ _ _ rs rs' (c2 e0) pa'.2 pb'.2 (room_tail hu) j (Nat.lt_of_succ_lt_succ h1) (Nat.lt_of_succ_lt_succ h2) (fun i hi => hp (i + 1) (Nat.succ_lt_succ hi)) hj
end
end Dl

namespace Dl
open PySem L2 PySem.W PySem.SeqAt PyProof.Rows
noncomputable def ltv (h : Heap) (v u : Value) : Bool := tlt (keyToks (readOf h v)) (keyToks (readOf h u))
theorem swo_ltv (h : Heap) : SrtO.Swo (ltv h) := by
  refine ⟨fun x y q => ?_, fun x y z h1 h2 => ?_⟩
  · cases e : ltv h y x with
    | false => rfl
    | true =>
      have := lex_trans _ _ _ q e
      rw [lex_irrefl] at this; cases this
  · cases e : ltv h z x with
    | false => rfl
    | true =>
      rcases lex_negTrans _ (keyToks (readOf h y)) _ e with q | q
      · rw [show ltv h z y = true from q] at h2; cases h2
      · rw [show ltv h y x = true from q] at h1; cases h1
structure Srt (ds : List PyData) : Prop where
  one : ∀ d, d ∈ ds → d.plain = true ∧ d.depth ≤ 60 ∧ ∃ i r, d = .tuple (.int i :: r)
  two : ∀ d, d ∈ ds → ∀ d', d' ∈ ds → cmpb d d' = true
section
variable {prog : Program} {w : World} {A : Around} {E : Value → Shared → Prop} {s : Shared}
end
end Dl

namespace Dl
open PySem L2
inductive Ech {α β : Type} (R : α → β → Prop) : List α → List β → Prop
  | nil : Ech R [] []
  | cons {a : α} {b : β} {as : List α} {bs : List β} : R a b → Ech R as bs → Ech R (a :: as) (b :: bs)
theorem Ech.left {α β : Type} {R : α → β → Prop} {us : List α} {ds : List β} (t : Ech R us ds) : ∀ v ∈ us, ∃ d ∈ ds, R v d := by
  induction t with
  | nil => intro v h; cases h
  | cons q t ih =>
    intro v h
    rcases List.mem_cons.mp h with z | z
    · subst z; exact ⟨_, List.mem_cons_self .., q⟩
    · obtain ⟨d, hd, r⟩ := ih v z; exact ⟨d, List.mem_cons_of_mem _ hd, r⟩
theorem pureDs_iff : ∀ {l : List D}, pureDs l = true ↔ ∀ d ∈ l, pureD d = true
  | [] => by simp [pureDs]
  | d :: l => by rw [pureDs, Bool.and_eq_true, pureDs_iff (l := l)]; simp
theorem rep_perm {K : PySem.W.Frag} {G : GH} {H : Hp} {xs ys : List V} (p : List.Perm xs ys) : ∀ {ds : List D}, RepL K G H ds xs → ∃ es, List.Perm es ds ∧ RepL K G H es ys := by
  induction p with
  | nil => intro ds h; exact ⟨ds, List.Perm.refl _, h⟩
  | cons x p ih =>
    intro ds h
    cases ds with
    | nil => unfold RepL at h; cases h
    | cons d ds =>
      unfold RepL at h
      obtain ⟨x', r, e, h1, h2⟩ := h
      cases e
      obtain ⟨es, pe, re⟩ := ih h2
      exact ⟨d :: es, pe.cons d, repL_cons h1 re⟩
  | swap x y l =>
    intro ds h
    cases ds with
    | nil => unfold RepL at h; cases h
    | cons d ds =>
      unfold RepL at h
      obtain ⟨x', r, e, h1, h2⟩ := h
      cases e
      cases ds with
      | nil => unfold RepL at h2; cases h2
      | cons d2 ds =>
        unfold RepL at h2
        obtain ⟨x', r, e, h3, h4⟩ := h2
        cases e
        exact ⟨d2 :: d :: ds, List.Perm.swap .., repL_cons h3 (repL_cons h1 h4)⟩
  | trans p q ih1 ih2 =>
    intro ds h
    obtain ⟨es, p1, r1⟩ := ih1 h
    obtain ⟨fs, p2, r2⟩ := ih2 r1
    exact ⟨fs, p2.trans p1, r2⟩
theorem reads_of {X : Cx} {pins : List (Addr × Obj)} {σ : L2.St} {H : Hp} {s : Shared} {G : GH} (I : Inv X pins σ H s) (g : GOk X.K G H) : ∀ {ds : List D} {xs : List V} {us : List Value}, pureDs ds = true → RepL X.K G H ds xs → Vals xs us →
    Ech (fun u d => ∃ as, Reads s.heap u (pyD d) as) us ds
  | [], _, us, _, h, r => by
    unfold RepL at h; subst h
    cases r; exact .nil
  | d :: ds, _, us, hp, h, r => by
    unfold RepL at h
    obtain ⟨x, xs, rfl, h1, h2⟩ := h
    have hp' : pureD d = true ∧ pureDs ds = true := by simpa [pureDs] using hp
    cases r with
    | cons r1 r2 =>
      refine .cons ?_ (reads_of I g hp'.2 h2 r2)
      have a := vw_dp g h1 (by rw [vw_pure hp'.1]; exact hp'.1)
      rw [vw_pure hp'.1] at a
      exact Dp.reads I _ _ _ a r1
abbrev dlt (a b : D) : Bool := tlt (PySem.W.keyToks (pyD a)) (PySem.W.keyToks (pyD b))
abbrev Asc (es : List D) : Prop := es.Pairwise fun a b => dlt b a = false
theorem asc_of {h : Heap} : ∀ {us : List Value} {es : List D}, Ech (fun u d => ∃ as, Reads h u (pyD d) as) us es → SrtO.Srtd (ltv h) us → Asc es
  | _, _, .nil, _ => List.Pairwise.nil
  | _, _, .cons (a := u) (as := us) (b := d) (bs := ds) ⟨as, r⟩ t, hs => by
    have hs' := List.pairwise_cons.mp hs
    refine List.pairwise_cons.mpr ⟨fun e he => ?_, asc_of t hs'.2⟩
    have key : ∀ {us : List Value} {ds : List D}, Ech (fun u d => ∃ as, Reads h u (pyD d) as) us ds → e ∈ ds → ∃ v ∈ us, ∃ as, Reads h v (pyD e) as := by
      intro us ds t
      induction t with
      | nil => intro he; cases he
      | cons q t ih =>
        intro he
        rcases List.mem_cons.mp he with z | z
        · subst z; exact ⟨_, List.mem_cons_self .., q⟩
        · obtain ⟨v, hv, w⟩ := ih z; exact ⟨v, List.mem_cons_of_mem _ hv, w⟩
    obtain ⟨v, hv, bs, rv⟩ := key t he
    have := hs'.1 v hv
    unfold ltv at this
    rw [PySem.SeqAt.readOf_plain (plain_py d) r, PySem.SeqAt.readOf_plain (plain_py e) rv] at this
    exact this
structure SrtD (l : List D) : Prop where
  pure : pureDs l = true
  one : ∀ d, d ∈ l → depD d ≤ 60 ∧ ∃ i r, d = .tup (.int i :: r)
  two : ∀ d, d ∈ l → ∀ d', d' ∈ l → cmpb (pyD d) (pyD d') = true
end Dl

namespace Dl
open PySem L2 PyProof.Rows
section
variable {X : Cx} {o : Expr} {td : TE} {p apos mpos pos : Pos}
end
end Dl

namespace Dl
open PySem L2
end Dl

namespace Dl
open PySem L2
def putFD (f : Str) (v : D) : List (Str × D) → List (Str × D)
  | [] => [(f, v)]
  | (g, x) :: r => if g = f then (g, v) :: r else (g, x) :: putFD f v r
section
variable {K : PySem.W.Frag} {G : GH} {H : Hp}
theorem putF_rep {f : Str} {d : D} {v : V} (hv : RepV K G H d v) : ∀ {fs : List (Str × D)} {ws : List (Str × V)}, ws.map (·.1) = fs.map (·.1) → RepL K G H (fs.map (·.2)) (ws.map (·.2)) →
    (putF f v ws).map (·.1) = (putFD f d fs).map (·.1) ∧ RepL K G H ((putFD f d fs).map (·.2)) ((putF f v ws).map (·.2))
  | [], [], _, _ => by
    refine ⟨rfl, ?_⟩
    show RepL K G H [d] [v]
    exact repL_one hv
  | [], _ :: _, e, _ => by simp at e
  | _ :: _, [], e, _ => by simp at e
  | (g, x) :: fs, (g', w) :: ws, e, r => by
    simp only [List.map_cons, List.cons.injEq] at e
    obtain ⟨e1, e2⟩ := e
    subst e1
    simp only [List.map_cons] at r
    have rx : RepV K G H x w ∧ RepL K G H (fs.map (·.2)) (ws.map (·.2)) := by
      unfold RepL at r
      obtain ⟨y, t, ey, h1, h2⟩ := r
      cases ey
      exact ⟨h1, h2⟩
    unfold putF putFD
    by_cases hg : g' = f
    · rw [if_pos hg, if_pos hg]
      exact ⟨by simp [e2], repL_cons hv rx.2⟩
    · rw [if_neg hg, if_neg hg]
      obtain ⟨a, b⟩ := putF_rep hv e2 rx.2
      exact ⟨by simp [a], repL_cons rx.1 b⟩
theorem look_rep {f : Str} : ∀ {fs : List (Str × D)} {ws : List (Str × V)}, ws.map (·.1) = fs.map (·.1) → RepL K G H (fs.map (·.2)) (ws.map (·.2)) →
    (∀ d, fs.lookup f = some d → ∃ v, ws.lookup f = some v ∧ RepV K G H d v) ∧ (fs.lookup f = none → ws.lookup f = none)
  | [], [], _, _ => ⟨fun d h => by simp at h, fun _ => rfl⟩
  | [], _ :: _, e, _ => by simp at e
  | _ :: _, [], e, _ => by simp at e
  | (g, x) :: fs, (g', w) :: ws, e, r => by
    simp only [List.map_cons, List.cons.injEq] at e
    obtain ⟨e1, e2⟩ := e
    subst e1
    simp only [List.map_cons] at r
    have rx : RepV K G H x w ∧ RepL K G H (fs.map (·.2)) (ws.map (·.2)) := by
      unfold RepL at r
      obtain ⟨y, t, ey, h1, h2⟩ := r
      cases ey
      exact ⟨h1, h2⟩
    obtain ⟨a, b⟩ := look_rep (f := f) e2 rx.2
    by_cases hg : f = g'
    · have hb : (f == g') = true := beq_iff_eq.mpr hg
      simp only [List.lookup, hb]
      exact ⟨fun d h => by cases h; exact ⟨w, rfl, rx.1⟩, fun h => by cases h⟩
    · have hb : (f == g') = false := beq_eq_false_iff_ne.mpr hg
      simp only [List.lookup, hb]
      exact ⟨a, b⟩
theorem keys_len {fs : List (Str × D)} {ws : List (Str × V)} (e : ws.map (·.1) = fs.map (·.1)) : ws.length = fs.length := by simpa using congrArg List.length e
end

def dFld (c f : Str) (te : DTE) : DTE := fun ρ G Q => te ρ G fun d G1 => ∃ a fs v, d = .ref a ∧ G1 a = some (.ins c fs) ∧ fs.lookup f = some v ∧ Q v G1
def gFld (c f : Str) (to : DTE) : DTG := fun y ρ G Q => to ρ G fun d G1 => ∃ a fs, d = .ref a ∧ G1 a = some (.ins c fs) ∧ fs.length < 1000 ∧ Q ρ (updG G1 a (.ins c (putFD f y fs)))
section
variable {X : Cx} {e o value : Expr} {c f : Str} {pos pos' : Pos} {te to tv : DTE}
theorem de_fld (hc : Cls X.K (He.ga X.K c)) (hn : NoAttr X.K (He.ga X.K c) f) (he : DE X e te) (hb : attributeBase e f X.env (eval e X.env) = eval e X.env := by rfl) : DE X (.Attribute e f pos) (dFld c f te) := by
  refine (pe_fld he hb).imp fun σ H Q ⟨ρ, G, q, r, h, k⟩ => ?_
  refine ⟨ρ, G, _, r, h, fun v d H1 G1 e1 r1 v1 h1 => ?_⟩
  obtain ⟨a, fs, w, rfl, hg, hl, hq⟩ := h1
  cases rv_ref v1
  obtain ⟨dx, ws, w1, w2, w3⟩ := r1.gok a _ hg
  obtain ⟨y, ly, ry⟩ := (look_rep (f := f) w2 w3).1 _ hl
  exact ⟨a, _, dx, ws, y, rfl, w1, hc, hn, ly, k y w H1 G1 e1 r1 ry hq⟩
theorem fld_put {K : PySem.W.Frag} {σ : St} {H : Hp} {ρ : DSt} {G : GH} {a dx : Addr} {fs : List (Str × D)} {ws : List (Str × V)} {y : V} {d : D} (r : DRel K σ H ρ G) (hg : G a = some (.ins c fs)) (v : RepV K G H d y) (w1 : H a = some (.ins (He.ga K c) dx ws)) (w2 : ws.map (·.1) = fs.map (·.1))
    (w3 : RepL K G H (fs.map (·.2)) (ws.map (·.2))) : Ext G H (updG G a (.ins c (putFD f d fs))) (upd H a (.ins (He.ga K c) dx (putF f y ws))) ∧ DRel K σ (upd H a (.ins (He.ga K c) dx (putF f y ws))) ρ (updG G a (.ins c (putFD f d fs))) := by
  have e : Ext G H (updG G a (.ins c (putFD f d fs))) (upd H a (.ins (He.ga K c) dx (putF f y ws))) := Ext.write hg
  obtain ⟨p1, p2⟩ := putF_rep (f := f) v w2 w3
  exact ⟨e, r.ext e (r.gok.put e ⟨dx, _, upd_same, p1, p2.ext e⟩)⟩
theorem ds_setF (hc : Cls X.K (He.ga X.K c)) (hn : NoAttr X.K (He.ga X.K c) f) (ho : DE X o to) (hv : DE X value tv) (hs : swapsWith value (some (.Attribute o f pos')) pos.line X.env = pure false := by rfl) :
    DS X (.Assign [.Attribute o f pos'] value pos) (dAsg tv (gFld c f to)) := by
  refine (ps_fld ho hv hs).imp fun Dv σ H ⟨ρ, G, E, r, h, k1, k2, k3, k4⟩ => ?_
  refine ⟨ρ, G, _, r, h, fun y dy H1 G1 e1 r1 v1 h1 => ?_⟩
  refine ⟨ρ, G1, _, r1, h1, fun x dxx H2 G2 e2 r2 v2 h2 => ?_⟩
  obtain ⟨a, fs, rfl, hg, hl, hq⟩ := h2
  cases rv_ref v2
  obtain ⟨dx, ws, w1, w2, w3⟩ := r2.gok a _ hg
  obtain ⟨e3, r3⟩ := fld_put (f := f) r2 hg (v1.ext e2) w1 w2 w3
  exact ⟨a, _, dx, ws, rfl, w1, hc, hn, by rw [keys_len w2]; exact hl, k1 _ _ _ _ ((e1.trans e2).trans e3) r3 hq⟩
end

section
variable {X : Cx} {CX : CXT} {k : Nat} {C f : Addr} {fd : FuncData} {ps : List Str} {x m : Str} {p pos apos : Pos} {e o : Expr} {es : List Expr} {E : XK} {ta : TE} {t : TA}
theorem ge_meth {sp : Sp} {pl : Sem Bool} (he : PE X o ta) (c : Cls X.K C) (hm : Meth X.K C m f) (F : GFn X.prog X.w X.K X.mg X.base CX k f fd ps sp) (hr : Room k X.A) (hgd : X.A.guards = some []) (hb : Binds X.K fd ps []) (hx : Passes CX X E) (ha : PA X (e :: es) t)
    (hst : starEach (e :: es) X.env = (false, eval e X.env) :: starEach es X.env := by rfl) (hpl : (backTo pos (starEach es X.env)).any (·.1) = false := by rfl)
    (ht : eval (.Call (.Attribute o m apos) (e :: es) [] pos) X.env = (do
      let ov ← eval o X.env
      standAt apos.atName
      let (f, first) ← holding [ov] (getMethod ov m pl)
      callWith pos f first (backTo pos (starEach (e :: es) X.env)) (backToKw pos (keywordEach [] X.env))) := by rfl) :
    PE X (.Call (.Attribute o m apos) (e :: es) [] pos) (tMeth C m sp [] E ta t) := by
  refine ⟨fun pins s σ H Q I h => ?_⟩
  refine PySem.W.methodCall_KW (pl := pl) (thn (he.run pins s σ H _ I h) fun u s1 ⟨x, H1, I1, rx, a, dx, fs, ex, ea, l, q⟩ => ?_) ht
  subst ex
  obtain rfl : u = Value.ref a := rx
  refine getmeth_ok I1 ea c hm l ?_
  refine PySem.W.callWith_K (first := [.ref a]) (h₀ := X.base) I.ok.mod.kin hm.kp (thn (ha.run pos pins s1 σ H1 _ I1 q) fun us s2 ⟨vs, H2, I2, r, q2⟩ => ⟨I2.kIn, ?_⟩) hst hpl
  have q3 : sp (V.ref a :: (vs ++ [])) H2 Q E := q2
  rw [List.append_nil] at q3
  exact g_run (us := .ref a :: us) (xs := .ref a :: vs) F hr hgd hb hx I2 (.cons rfl r) q3
theorem ge_meth0 {sp : Sp} {pl : Sem Bool} (he : PE X o ta) (c : Cls X.K C) (hm : Meth X.K C m f) (F : GFn X.prog X.w X.K X.mg X.base CX k f fd ps sp) (hr : Room k X.A) (hgd : X.A.guards = some []) (hb : Binds X.K fd ps []) (hx : Passes CX X E)
    (ht : eval (.Call (.Attribute o m apos) [] [] pos) X.env = (do
      let ov ← eval o X.env
      standAt apos.atName
      let (f, first) ← holding [ov] (getMethod ov m pl)
      callWith pos f first (backTo pos (starEach [] X.env)) (backToKw pos (keywordEach [] X.env))) := by rfl) :
    PE X (.Call (.Attribute o m apos) [] [] pos) (tMeth C m sp [] E ta tNil) := by
  refine ⟨fun pins s σ H Q I h => ?_⟩
  refine PySem.W.methodCall_KW (pl := pl) (thn (he.run pins s σ H _ I h) fun u s1 ⟨x, H1, I1, rx, a, dx, fs, ex, ea, l, q⟩ => ?_) ht
  subst ex
  obtain rfl : u = Value.ref a := rx
  refine getmeth_ok I1 ea c hm l ?_
  exact PySem.W.callWith_K0 (first := [.ref a]) I1.kIn hm.kp (g_run (us := [.ref a]) (xs := [.ref a]) F hr hgd hb hx I1 (.cons rfl .nil) q)
theorem g_make {sp : Sp} {pins : List (Addr × Obj)} {σ : St} {H : Hp} {s : Shared} {Q : VK} {us : List Value} {vs : List V} (M : Mk X.K C f) (F : GFn X.prog X.w X.K X.mg X.base CX k f fd ps sp) (hr : Room (k + 1) X.A) (hgd : X.A.guards = some []) (hb : Binds X.K fd ps [])
    (hx : Passes CX X E) (I : Inv X pins σ H s) (r : Vals vs us)
    (h : ∀ x dx, H x = none → H dx = none → dx ≠ x → sp (.ref x :: vs) (upd (upd H dx (.own x)) x (.ins C dx [])) (fun v H2 => v = .non ∧ Q (.ref x) H2) E) :
    wpAny (model X.prog X.w) X.A (call (.ref C) us) (EP X pins σ Q) X.xe s := by
  have hq := h (s.heap.objs.size + 1) s.heap.objs.size (I.hok.fresh (Nat.le_succ _)) (I.hok.fresh (Nat.le_refl _)) (Nat.ne_of_lt (Nat.lt_succ_self _))
  have I2 := Inv.made (C := C) I
  have r2 : Vals (V.ref (s.heap.objs.size + 1) :: vs) (Value.ref (s.heap.objs.size + 1) :: us) := .cons rfl r
  have hl : (Value.ref (s.heap.objs.size + 1) :: us).length = ps.length := by
    have e := r2.length
    rw [F.arity _ _ _ _ hq] at e
    exact e.symm
  have bd := hb _ (Value.ref (s.heap.objs.size + 1) :: us) I2.kIn (by rw [List.append_nil]; exact hl)
  rw [List.append_nil] at bd
  refine wpAny_call (make_map (f := f) I.kIn M.makes M.init (beq_iff_eq.mp M.fn) (codeAny_mono (F.go _ X.stack _ _ ⟨Value.ref (s.heap.objs.size + 1) :: us, []⟩ (Value.ref (s.heap.objs.size + 1) :: us) _ _ E (hr.make C us []) hgd
    (I2.env0.make C us []) bd r2 hq) fun r s' hq' => ?_))
  cases r with
  | error e => exact hx pins σ _ _ e s' I2 hq'
  | ok fl =>
    cases fl with
    | ret u =>
      obtain ⟨v, H', I3, rv, ev, q3⟩ := I2.after hq'
      subst ev
      exact ⟨rv, ⟨V.ref (s.heap.objs.size + 1), H', I3, rfl, q3⟩⟩
    | next => exact False.elim hq'
    | brk => exact False.elim hq'
    | cont => exact False.elim hq'
theorem ge_make {sp : Sp} (M : Mk X.K C f) (F : GFn X.prog X.w X.K X.mg X.base CX k f fd ps sp) (hr : Room (k + 1) X.A) (hgd : X.A.guards = some []) (hg : Gl X x) (hm : X.mg x = some (.ref C)) (hb : Binds X.K fd ps []) (hx : Passes CX X E)
    (ha : PA X (e :: es) t) (hdb : (x == ("__debug__" : Str)) = false := by decide) (he : starEach (e :: es) X.env = (false, eval e X.env) :: starEach es X.env := by rfl) (hpl : (backTo pos (starEach es X.env)).any (·.1) = false := by rfl) :
    PE X (.Call (.Name x p) (e :: es) [] pos) (tMake C sp [] E t) := by
  refine ⟨fun pins s σ H Q I h => ?_⟩
  refine wpAny_Call_Name_kw (ld_glob I hg hm ?_ hdb)
  refine PySem.W.callWith_K (h₀ := X.base) I.ok.mod.kin M.kp (thn (ha.run pos pins s σ H _ I h) fun us s1 ⟨vs, H1, I1, r, q⟩ => ⟨I1.kIn, ?_⟩) he hpl
  exact g_make M F hr hgd hb hx I1 r (fun x dx a b c => by have z : sp (V.ref x :: (vs ++ [])) _ _ E := q x dx a b c; rw [List.append_nil] at z; exact z)
end
def dMeth (c m : Str) (sp : DSp) (to : DTE) (ta : DTA) : DTE := fun ρ G Q => to ρ G fun x G1 => ∃ a fs, x = .ref a ∧ G1 a = some (.ins c fs) ∧ fs.lookup m = none ∧ ta ρ G1 fun ds G2 => sp (x :: ds) G2 Q noX
def dMake (c : Str) (sp : DSp) (ta : DTA) : DTE := fun ρ G Q => ta ρ G fun ds G1 => ∀ a, G1 a = none → sp (.ref a :: ds) (updG G1 a (.ins c [])) (fun v G2 => v = .non ∧ Q (.ref a) G2) noX
structure MCallee (P : Program) (w : World) (K : PySem.W.Frag) (mg : Str → Option Value) (base : Heap) (k : Nat) (c m : Str) (ps : List Str) (sp : DSp) : Prop where
  ex : ∃ f fd, DFn P w K mg base k f fd ps sp ∧ Cls K (He.ga K c) ∧ Meth K (He.ga K c) m f ∧ Binds K fd ps []
structure ICallee (P : Program) (w : World) (K : PySem.W.Frag) (mg : Str → Option Value) (base : Heap) (k : Nat) (c : Str) (ps : List Str) (sp : DSp) : Prop where
  ex : ∃ f fd, DFn P w K mg base k f fd ps sp ∧ Mk K (He.ga K c) f ∧ mg c = some (.ref (He.ga K c)) ∧ Binds K fd ps []
section
variable {X : Cx} {k : Nat} {c m : Str} {ps : List Str} {sp : DSp} {p pos apos : Pos} {e o : Expr} {es : List Expr} {ta : DTA} {to : DTE}
theorem MCallee.up {P : Program} {w : World} {K : PySem.W.Frag} {mg : Str → Option Value} {base : Heap} {j : Nat} (C : MCallee P w K mg base j c m ps sp) (h : j ≤ k) : MCallee P w K mg base k c m ps sp := by
  obtain ⟨f, fd, F, a⟩ := C.ex
  exact ⟨f, fd, F.up h, a⟩
theorem ICallee.up {P : Program} {w : World} {K : PySem.W.Frag} {mg : Str → Option Value} {base : Heap} {j : Nat} (C : ICallee P w K mg base j c ps sp) (h : j ≤ k) : ICallee P w K mg base k c ps sp := by
  obtain ⟨f, fd, F, a⟩ := C.ex
  exact ⟨f, fd, F.up h, a⟩
theorem dcm0 {pl : Sem Bool} (C : MCallee X.prog X.w X.K X.mg X.base k c m ps sp) (hr : Room k X.A) (hgd : X.A.guards = some []) (ho : DE X o to)
    (ht : eval (.Call (.Attribute o m apos) [] [] pos) X.env = (do
      let ov ← eval o X.env
      standAt apos.atName
      let (f, first) ← holding [ov] (getMethod ov m pl)
      callWith pos f first (backTo pos (starEach [] X.env)) (backToKw pos (keywordEach [] X.env))) := by rfl) :
    DE X (.Call (.Attribute o m apos) [] [] pos) (dMeth c m sp to dNil) := by
  obtain ⟨f, fd, F, hc, hm, hb⟩ := C.ex
  refine (ge_meth0 (pl := pl) ho hc hm F hr hgd hb pass0 ht).imp fun σ H Q ⟨ρ, G, q, r, h, kq⟩ => ?_
  refine ⟨ρ, G, _, r, h, fun v d H1 G1 e1 r1 v1 h1 => ?_⟩
  obtain ⟨a, fs, rfl, hg, hl, h2⟩ := h1
  cases rv_ref v1
  obtain ⟨dx, ws, w1, w2, w3⟩ := r1.gok a _ hg
  refine ⟨a, dx, ws, rfl, w1, (look_rep (f := m) w2 w3).2 hl, ?_⟩
  show toSp X.K sp (V.ref a :: ([] ++ [])) H1 Q E0
  exact sp_at r1 (repL_one v1) h2 fun v d H' G' e3 r3 v3 h4 => kq v d H' G' (e1.trans e3) r3 v3 h4
theorem dci (C : ICallee X.prog X.w X.K X.mg X.base k c ps sp) (hr : Room (k + 1) X.A) (hgd : X.A.guards = some []) (hg : Gl X c) (ha : DA X (e :: es) ta) (hdb : (c == ("__debug__" : Str)) = false := by decide)
    (he : starEach (e :: es) X.env = (false, eval e X.env) :: starEach es X.env := by rfl) (hpl : (backTo pos (starEach es X.env)).any (·.1) = false := by rfl) : DE X (.Call (.Name c p) (e :: es) [] pos) (dMake c sp ta) := by
  obtain ⟨f, fd, F, M, hm, hb⟩ := C.ex
  refine (ge_make M F hr hgd hg hm hb pass0 ha hdb he hpl).imp fun σ H Q ⟨ρ, G, q, r, h, kq⟩ => ?_
  refine ⟨ρ, G, _, r, h, fun vs ds H1 G1 e1 r1 v1 h1 x dx hx hdx hne => ?_⟩
  show toSp X.K sp (V.ref x :: (vs ++ [])) _ _ E0
  rw [List.append_nil]
  have ex1 : Ext G1 H1 G1 (upd H1 dx (.own x)) := Ext.new hdx
  have g1 : GOk X.K G1 (upd H1 dx (.own x)) := r1.gok.new hdx
  have hx2 : (upd H1 dx (.own x)) x = none := by rw [upd_ne (Ne.symm hne)]; exact hx
  have ex2 : Ext G1 (upd H1 dx (.own x)) (updG G1 x (.ins c [])) (upd (upd H1 dx (.own x)) x (.ins (He.ga X.K c) dx [])) := Ext.newG hx2
  have r3 : DRel X.K σ (upd (upd H1 dx (.own x)) x (.ins (He.ga X.K c) dx [])) ρ (updG G1 x (.ins c [])) := (r1.ext ex1 g1).ext ex2 (g1.put ex2 ⟨dx, [], upd_same, rfl, repL_nil⟩)
  have e13 := (e1.trans ex1).trans ex2
  refine sp_at r3 (repL_cons (d := .ref x) (by unfold RepV; rfl) ((v1.ext ex1).ext ex2)) (h1 x (r1.gok.fresh hx)) fun v d H' G' e3 r4 v3 h4 => ?_
  obtain ⟨rfl, h5⟩ := h4
  exact ⟨by unfold RepV at v3; exact v3, kq _ _ H' G' (e13.trans e3) r4 (by unfold RepV; rfl) h5⟩
end
end Dl

namespace Dl
open PySem L2
def WFor (K : PySem.W.Frag) (a : Addr) (kvs : List (Str × Int)) (z : Str) : Prop := match kvs.lookup z with
  | some i => ∃ t, PySem.W.nsIn K a z = some (some (.int i t))
  | none => PySem.W.nsIn K a z = some none
structure WDic (K : PySem.W.Frag) (w : World) (mg : Str → Option Value) (x : Str) (kvs : List (Str × Int)) : Prop where
  ex : ∃ a es n, mg x = some (.ref a) ∧ KDict K w a es n ∧ ∀ z, WFor K a kvs z
section
variable {X : Cx} {x : Str} {kvs : List (Str × Int)} {i : Expr} {ty : DTE} {pos p : Pos}
end

def dicI (K : PySem.W.Frag) (a : Addr) (kvs : List (Str × Int)) : Bool := kvs.all fun q => match PySem.W.nsIn K a q.1 with
  | some (some (.int j _)) => decide (j = q.2)
  | _ => false
theorem lookup_mem {z : Str} {i : Int} : ∀ {kvs : List (Str × Int)}, kvs.lookup z = some i → (z, i) ∈ kvs
  | (g, j) :: r, h => by
    by_cases hg : z = g
    · have hb : (z == g) = true := beq_iff_eq.mpr hg
      simp only [List.lookup, hb, Option.some.injEq] at h
      subst h; subst hg
      exact List.mem_cons_self ..
    · have hb : (z == g) = false := beq_eq_false_iff_ne.mpr hg
      simp only [List.lookup, hb] at h
      exact List.mem_cons_of_mem _ (lookup_mem h)
theorem lookup_no {z : Str} : ∀ {kvs : List (Str × Int)}, kvs.lookup z = none → z ∉ kvs.map (·.1)
  | [], _ => by simp
  | (g, j) :: r, h => by
    by_cases hg : z = g
    · have hb : (z == g) = true := beq_iff_eq.mpr hg
      simp only [List.lookup, hb] at h
      cases h
    · have hb : (z == g) = false := beq_eq_false_iff_ne.mpr hg
      simp only [List.lookup, hb] at h
      simp only [List.map_cons, List.mem_cons, not_or]
      exact ⟨hg, lookup_no h⟩
theorem keys_no {P : Params} {z : Str} : ∀ {l : List DictEntry} {ks : List Str}, l.map He.keyOf = He.keysIn P ks → z ∉ ks → l.find? (·.key.isStr z) = none ∧ l.any (·.refKey) = false
  | [], _, _, _ => ⟨rfl, rfl⟩
  | e :: r, [], h, _ => by cases h
  | e :: r, k :: ks, h, hz => by
    have h1 : He.keyOf e :: r.map He.keyOf = some (k, PyData.keyHash P k) :: He.keysIn P ks := h
    injection h1 with h2 h3
    simp only [List.mem_cons, not_or] at hz
    obtain ⟨a, b⟩ := keys_no h3 hz.2
    unfold He.keyOf at h2
    split at h2
    · rename_i y t q
      have h4 := Option.some.inj h2
      obtain ⟨h5, h6⟩ := Prod.mk.inj h4
      have f1 : e.key.isStr z = false := by
        rw [q]
        show (y == z) = false
        rw [h5]
        exact beq_eq_false_iff_ne.mpr (fun he => hz.1 he.symm)
      refine ⟨by rw [List.find?_cons, f1]; exact a, ?_⟩
      rw [List.any_cons, b, Bool.or_false]
      unfold DictEntry.refKey
      rw [q]
    · cases h2
theorem wfor_of {K : PySem.W.Frag} {w : World} {a : Addr} {es : Array DictEntry} {n : Nat} {kvs : List (Str × Int)} (kd : KDict K w a es n) (hk : es.toList.map He.keyOf = He.keysIn w.params (kvs.map (·.1))) (hv : dicI K a kvs = true) (z : Str) : WFor K a kvs z := by
  unfold WFor
  cases q : kvs.lookup z with
  | some i =>
    have h2 := List.all_eq_true.mp hv _ (lookup_mem q)
    dsimp only at h2 ⊢
    cases e : PySem.W.nsIn K a z with
    | none => rw [e] at h2; cases h2
    | some o =>
      rw [e] at h2
      cases o with
      | none => cases h2
      | some u =>
        cases u with
        | int j t => exact ⟨t, by rw [of_decide_eq_true h2]⟩
        | _ => cases h2
  | none =>
    obtain ⟨f1, f2⟩ := keys_no (z := z) hk (lookup_no q)
    dsimp only
    unfold PySem.W.nsIn
    rw [kd.at_]
    dsimp only
    rw [f1]
    dsimp only
    rw [f2]
    rfl
theorem dicW_keys {K : PySem.W.Frag} {w : World} {a : Addr} {ks : List Str} (h : He.dicW K a = some (He.keysIn w.params ks)) : ∃ es n, KDict K w a es n ∧ es.toList.map He.keyOf = He.keysIn w.params ks := by
  obtain ⟨es, n, kd⟩ := He.dicW_ok h
  refine ⟨es, n, kd, ?_⟩
  unfold He.dicW at h
  rw [kd.at_] at h
  dsimp only at h
  have e1 : (decide (("dict" : String) = "dict") && ((#[] : Array (Option Value)).isEmpty && !(a == sysModules))) = true := by
    rw [kd.low]; decide
  rw [e1] at h
  exact Option.some.inj h
abbrev TabX : Type := Str × List (Str × Int)
def obsXT (fx : List Fx) (fn : List He.DefD) (ts : List TabX) (K : PySem.W.Frag) : He.AlT := (obsX (fx ++ ts.map fun t => .fa (.glo t.1)) fn K, (ts.map fun t => match dicI K (He.ga K t.1) t.2 with
  | true => He.dicW K (He.ga K t.1)
  | false => none))
def valXT (fn : List He.DefD) (ts : List TabX) (w : World) : He.AlT := (He.valD fn, ts.map fun t => some (He.keysIn w.params (t.2.map (·.1))))
def SaysXT (fx : List Fx) (fn : List He.DefD) (ts : List TabX) (w : World) (K : PySem.W.Frag) : Prop := obsXT fx fn ts K = valXT fn ts w
section
variable {fx : List Fx} {fn : List He.DefD} {ts : List TabX} {K : PySem.W.Frag} {w : World}
theorem SaysXT.x (c : SaysXT fx fn ts w K) : SaysX (fx ++ ts.map fun t => .fa (.glo t.1)) fn K := congrArg (fun z : He.AlT => z.1) c
theorem SaysXT.tab {h : Heap} {mg : Str → Option Value} (X : K.In h) (Gn : h.Ns mainGlobals mg) (c : SaysXT fx fn ts w K) (i : Nat) {t : TabX} (ht : ts[i]? = some t := by rfl) : WDic K w mg t.1 t.2 := by
  have e : (ts.map fun t => match dicI K (He.ga K t.1) t.2 with
    | true => He.dicW K (He.ga K t.1)
    | false => none) = ts.map fun t => some (He.keysIn w.params (t.2.map (·.1))) := congrArg (fun z : He.AlT => z.2) c
  have e2 := congrArg (fun l => l[i]?) e
  rw [List.getElem?_map, List.getElem?_map, ht] at e2
  have e3 : (match dicI K (He.ga K t.1) t.2 with
    | true => He.dicW K (He.ga K t.1)
    | false => none) = some (He.keysIn w.params (t.2.map (·.1))) := Option.some.inj e2
  have hv : dicI K (He.ga K t.1) t.2 = true := by
    cases q : dicI K (He.ga K t.1) t.2 with
    | true => rfl
    | false => rw [q] at e3; cases e3
  rw [hv] at e3
  obtain ⟨es, n, kd, hk⟩ := dicW_keys e3
  have hg : (Fx.fa (.glo t.1)).ok K = true := c.x.fact (fx.length + i) (by
    rw [List.getElem?_append_right (Nat.le_add_right _ _), Nat.add_sub_cancel_left, List.getElem?_map, ht]
    rfl)
  exact ⟨_, es, n, He.glo_ok X Gn hg, kd, fun z => wfor_of kd hk hv z⟩
end
end Dl

namespace Dl
open PySem L2 LamX
inductive OT | nil | node (m : Nat) (o : Obj) (l r : OT)
end Dl

namespace Dl
open PySem PySem.Spec PyProof.Rows L2 LamX
def dicsOf (ts : List TabX) (K : PySem.W.Frag) : List (Option (List (Option (Str × Int)))) := ts.map fun t => match dicI K (He.ga K t.1) t.2 with
  | true => He.dicW K (He.ga K t.1)
  | false => none
def dicsV (ts : List TabX) (w : World) : List (Option (List (Option (Str × Int)))) := ts.map fun t => some (He.keysIn w.params (t.2.map (·.1)))
structure SaysET (fx : List Fx) (fn : List He.DefD) (tf : List He.Defn) (ex : PySem.W.Frag → Bool) (xs : List XD) (pd : List PDef) (ts : List TabX) (w : World) (h : Heap) (K : PySem.W.Frag) : Prop extends SaysE fx fn tf ex xs pd h K where
  dics : dicsOf ts K = dicsV ts w
theorem SaysET.tab {fx : List Fx} {fn : List He.DefD} {tf : List He.Defn} {ex : PySem.W.Frag → Bool} {xs : List XD} {pd : List PDef} {ts : List TabX} {w : World} {h : Heap} {K : PySem.W.Frag} {mg : Str → Option Value} (c : SaysET fx fn tf ex xs pd ts w h K) (i : Nat) {t : TabX} (hg : mg t.1 = some (.ref (He.ga K t.1))) (ht : ts[i]? = some t := by rfl) : WDic K w mg t.1 t.2 := by
  have e2 := congrArg (fun l => l[i]?) c.dics
  unfold dicsOf dicsV at e2
  rw [List.getElem?_map, List.getElem?_map, ht] at e2
  have e3 : (match dicI K (He.ga K t.1) t.2 with
    | true => He.dicW K (He.ga K t.1)
    | false => none) = some (He.keysIn w.params (t.2.map (·.1))) := Option.some.inj e2
  have hv : dicI K (He.ga K t.1) t.2 = true := by
    cases q : dicI K (He.ga K t.1) t.2 with
    | true => rfl
    | false => rw [q] at e3; cases e3
  rw [hv] at e3
  obtain ⟨es, n, kd, hk⟩ := dicW_keys e3
  exact ⟨_, es, n, hg, kd, fun z => wfor_of kd hk hv z⟩
end Dl

namespace Dl
open PySem PySem.W L2 PyProof.Rows
def tdB (K : PySem.W.Frag) : Bool := K.all fun p => if p.2.cls == .type "tuple" then p.2.dict.isNone else true
def TdN (K : PySem.W.Frag) : Prop := tdB K = true
end Dl

namespace K13
open PySem L2 Dl
open PyProof.Rows
def top (i : Nat) : Stmt := PySem.Challenge.pw_honestbars_k13_whole_orders_and_bytes.main.body.getD i (.Pass ⟨0, 0, 0, 0⟩)
abbrev s_is_integer : Stmt := top 4
abbrev s_is_number : Stmt := top 5
abbrev s_is_sided : Stmt := top 6
abbrev s_is_sign : Stmt := top 7
abbrev s_is_signs : Stmt := top 8
abbrev s_require_usable : Stmt := top 21
abbrev s_sign_rank : Stmt := top 23
abbrev s_signs_rank : Stmt := top 24
abbrev s_in_sign_order : Stmt := top 25
abbrev s_sorted_signs : Stmt := top 26
abbrev s_is_ahead : Stmt := top 27
abbrev s_number_codes : Stmt := top 34
abbrev s_sign_codes : Stmt := top 35
abbrev s_packed : Stmt := top 36
abbrev s_ByteReader___init__ : Stmt := inClass (top 37) 0
abbrev s_ByteReader_has_more : Stmt := inClass (top 37) 1
abbrev s_ByteReader_take_byte : Stmt := inClass (top 37) 2
abbrev s_ByteReader_take_digits : Stmt := inClass (top 37) 3
abbrev s_ByteReader_take_sign : Stmt := inClass (top 37) 4
abbrev s_unpacked : Stmt := top 38
abbrev s_require_paper : Stmt := top 40
abbrev s_lets_signs : Stmt := top 41
abbrev s_law_feed : Stmt := top 43
abbrev s_law_draw : Stmt := top 44
abbrev s_law_sign : Stmt := top 45
abbrev s_law_signs : Stmt := top 46
abbrev s_law_heard : Stmt := top 47
abbrev s_law_order_right : Stmt := top 48
abbrev s_law_sorted_right : Stmt := top 49
abbrev s_law_bytes_right : Stmt := top 50
abbrev s_law : Stmt := top 51
def d_is_integer_ : He.DefD := ⟨("is_integer", none), "is_integer", "is_integer", defArgs s_is_integer, defBody s_is_integer, defScope s_is_integer, [], []⟩
def d_is_number_ : He.DefD := ⟨("is_number", none), "is_number", "is_number", defArgs s_is_number, defBody s_is_number, defScope s_is_number, [], []⟩
def d_is_sided_ : He.DefD := ⟨("is_sided", none), "is_sided", "is_sided", defArgs s_is_sided, defBody s_is_sided, defScope s_is_sided, [], []⟩
def d_is_sign_ : He.DefD := ⟨("is_sign", none), "is_sign", "is_sign", defArgs s_is_sign, defBody s_is_sign, defScope s_is_sign, [], []⟩
def d_is_signs_ : He.DefD := ⟨("is_signs", none), "is_signs", "is_signs", defArgs s_is_signs, defBody s_is_signs, defScope s_is_signs, [], []⟩
def d_require_usable_ : He.DefD := ⟨("require_usable", none), "require_usable", "require_usable", defArgs s_require_usable, defBody s_require_usable, defScope s_require_usable, [], []⟩
def d_sign_rank_ : He.DefD := ⟨("sign_rank", none), "sign_rank", "sign_rank", defArgs s_sign_rank, defBody s_sign_rank, defScope s_sign_rank, [], []⟩
def d_signs_rank_ : He.DefD := ⟨("signs_rank", none), "signs_rank", "signs_rank", defArgs s_signs_rank, defBody s_signs_rank, defScope s_signs_rank, [], []⟩
def d_in_sign_order_ : He.DefD := ⟨("in_sign_order", none), "in_sign_order", "in_sign_order", defArgs s_in_sign_order, defBody s_in_sign_order, defScope s_in_sign_order, [], []⟩
def d_sorted_signs_ : He.DefD := ⟨("sorted_signs", none), "sorted_signs", "sorted_signs", defArgs s_sorted_signs, defBody s_sorted_signs, defScope s_sorted_signs, [], []⟩
def d_is_ahead_ : He.DefD := ⟨("is_ahead", none), "is_ahead", "is_ahead", defArgs s_is_ahead, defBody s_is_ahead, defScope s_is_ahead, [], []⟩
def d_number_codes_ : He.DefD := ⟨("number_codes", none), "number_codes", "number_codes", defArgs s_number_codes, defBody s_number_codes, defScope s_number_codes, [], []⟩
def d_sign_codes_ : He.DefD := ⟨("sign_codes", none), "sign_codes", "sign_codes", defArgs s_sign_codes, defBody s_sign_codes, defScope s_sign_codes, [], []⟩
def d_packed_ : He.DefD := ⟨("packed", none), "packed", "packed", defArgs s_packed, defBody s_packed, defScope s_packed, [], []⟩
def d_ByteReader___init___ : He.DefD := ⟨("ByteReader", some "__init__"), "__init__", "ByteReader.__init__", defArgs s_ByteReader___init__, defBody s_ByteReader___init__, defScope s_ByteReader___init__, [], []⟩
def d_ByteReader_has_more_ : He.DefD := ⟨("ByteReader", some "has_more"), "has_more", "ByteReader.has_more", defArgs s_ByteReader_has_more, defBody s_ByteReader_has_more, defScope s_ByteReader_has_more, [], []⟩
def d_ByteReader_take_byte_ : He.DefD := ⟨("ByteReader", some "take_byte"), "take_byte", "ByteReader.take_byte", defArgs s_ByteReader_take_byte, defBody s_ByteReader_take_byte, defScope s_ByteReader_take_byte, [], []⟩
def d_ByteReader_take_digits_ : He.DefD := ⟨("ByteReader", some "take_digits"), "take_digits", "ByteReader.take_digits", defArgs s_ByteReader_take_digits, defBody s_ByteReader_take_digits, defScope s_ByteReader_take_digits, [], []⟩
def d_ByteReader_take_sign_ : He.DefD := ⟨("ByteReader", some "take_sign"), "take_sign", "ByteReader.take_sign", defArgs s_ByteReader_take_sign, defBody s_ByteReader_take_sign, defScope s_ByteReader_take_sign, [], []⟩
def d_unpacked_ : He.DefD := ⟨("unpacked", none), "unpacked", "unpacked", defArgs s_unpacked, defBody s_unpacked, defScope s_unpacked, [], []⟩
def d_require_paper_ : He.DefD := ⟨("require_paper", none), "require_paper", "require_paper", defArgs s_require_paper, defBody s_require_paper, defScope s_require_paper, [], []⟩
def d_lets_signs_ : He.DefD := ⟨("lets_signs", none), "lets_signs", "lets_signs", defArgs s_lets_signs, defBody s_lets_signs, defScope s_lets_signs, [], []⟩
def d_law_feed_ : He.DefD := ⟨("_law_feed", none), "_law_feed", "_law_feed", defArgs s_law_feed, defBody s_law_feed, defScope s_law_feed, [], []⟩
def d_law_draw_ : He.DefD := ⟨("_law_draw", none), "_law_draw", "_law_draw", defArgs s_law_draw, defBody s_law_draw, defScope s_law_draw, [], []⟩
def d_law_sign_ : He.DefD := ⟨("_law_sign", none), "_law_sign", "_law_sign", defArgs s_law_sign, defBody s_law_sign, defScope s_law_sign, [], []⟩
def d_law_signs_ : He.DefD := ⟨("_law_signs", none), "_law_signs", "_law_signs", defArgs s_law_signs, defBody s_law_signs, defScope s_law_signs, [], []⟩
def d_law_heard_ : He.DefD := ⟨("_law_heard", none), "_law_heard", "_law_heard", defArgs s_law_heard, defBody s_law_heard, defScope s_law_heard, [], []⟩
def d_law_order_right_ : He.DefD := ⟨("_law_order_right", none), "_law_order_right", "_law_order_right", defArgs s_law_order_right, defBody s_law_order_right, defScope s_law_order_right, [], []⟩
def d_law_sorted_right_ : He.DefD := ⟨("_law_sorted_right", none), "_law_sorted_right", "_law_sorted_right", defArgs s_law_sorted_right, defBody s_law_sorted_right, defScope s_law_sorted_right, [], []⟩
def d_law_bytes_right_ : He.DefD := ⟨("_law_bytes_right", none), "_law_bytes_right", "_law_bytes_right", defArgs s_law_bytes_right, defBody s_law_bytes_right, defScope s_law_bytes_right, [], []⟩
def d_law_ : He.DefD := ⟨("law", none), "law", "law", defArgs s_law, defBody s_law, defScope s_law, [], []⟩
def fn : List He.DefD := [d_is_integer_, d_is_number_, d_is_sided_, d_is_sign_, d_is_signs_, d_require_usable_, d_sign_rank_, d_signs_rank_, d_in_sign_order_, d_sorted_signs_, d_is_ahead_, d_number_codes_, d_sign_codes_, d_packed_, d_ByteReader___init___, d_ByteReader_has_more_, d_ByteReader_take_byte_, d_ByteReader_take_digits_, d_ByteReader_take_sign_, d_unpacked_, d_require_paper_, d_lets_signs_, d_law_feed_, d_law_draw_, d_law_sign_, d_law_signs_, d_law_heard_, d_law_order_right_, d_law_sorted_right_, d_law_bytes_right_, d_law_]
def pd : List PDef := []
def fx : List Fx := ([.glo "is_integer", .glo "is_number", .glo "is_sided", .glo "is_sign", .glo "is_signs", .glo "require_usable", .glo "sign_rank", .glo "signs_rank", .glo "in_sign_order", .glo "sorted_signs", .glo "is_ahead", .glo "number_codes", .glo "sign_codes", .glo "packed", .glo "unpacked", .glo "require_paper", .glo "lets_signs", .glo "_law_feed", .glo "_law_draw", .glo "_law_sign", .glo "_law_signs", .glo "_law_heard", .glo "_law_order_right", .glo "_law_sorted_right", .glo "_law_bytes_right", .glo "law", .free "all", .free "bool", .free "bytes", .free "enumerate"] : List Fx) ++ ([.free "int", .free "isinstance", .free "len", .free "list", .free "range", .free "repr", .free "sorted", .free "str", .free "sum", .free "tuple", .dat "PLAIN_SIGNS" (.tup [(.str "tick"), (.str "more"), (.str "end")]), .dat "NUMBER_SIGNS" (.tup [(.str "many"), (.str "way")]), .dat "SIDES" (.tup [(.str "left"), (.str "right")]), .dat "BASE" (.int 256), .dat "FIRST_NUMBER" (.int 3), .dat "FIRST_SIDE" (.int 5), .dat "BEHIND_SIDES" (.int 7), .dat "MOST_SIDES" (.int 29), .kb tdB, .glo "BarError", .glo "ByteReader", .glo "InvalidPaper", .glo "InvalidRow", .glo "InvalidText", .glo "LiveError", .glo "NotNext", .glo "NotUsable", .glo "PaperError", .glo "TextError", .glo "WorkError"] : List Fx) ++ ([.fa (.cls "ByteReader"), .fa (.mkr "ByteReader"), .fa (.noat "ByteReader" "own_data"), .fa (.noat "ByteReader" "spot"), .fa (.meth "ByteReader" "has_more"), .fa (.meth "ByteReader" "take_byte"), .fa (.meth "ByteReader" "take_digits"), .fa (.meth "ByteReader" "take_sign")] : List Fx)
abbrev Rw : PySem.W.OpenRow := PySem.W.OpenLaw.row PySem.Challenge.rw_honestbars_k13_whole_orders_and_bytes
abbrev CTh : CTab := [("BarError", ["BarError"], []), ("PaperError", ["PaperError", "BarError"], []), ("WorkError", ["WorkError", "BarError"], []), ("LiveError", ["LiveError", "BarError"], []), ("TextError", ["TextError", "BarError"], []), ("InvalidPaper", ["InvalidPaper", "PaperError", "BarError"], ["word", "at"]), ("NotUsable", ["NotUsable", "WorkError", "BarError"], ["word", "at"]), ("NotNext", ["NotNext", "WorkError", "BarError"], ["sign", "at"]), ("InvalidText", ["InvalidText", "TextError", "BarError"], ["line", "field"]), ("InvalidRow", ["InvalidRow", "TextError", "BarError"], ["row"])]
abbrev i_InvalidPaper : Stmt := inClass (top 15) 0
def xd_InvalidPaper : XD := ⟨"InvalidPaper", "InvalidPaper.__init__", defArgs i_InvalidPaper, defBody i_InvalidPaper, defScope i_InvalidPaper, ["word", "at"]⟩
abbrev i_NotUsable : Stmt := inClass (top 16) 0
def xd_NotUsable : XD := ⟨"NotUsable", "NotUsable.__init__", defArgs i_NotUsable, defBody i_NotUsable, defScope i_NotUsable, ["word", "at"]⟩
def xs : List XD := [xd_InvalidPaper, xd_NotUsable]
abbrev fileS : Str := (PySem.Challenge.rw_honestbars_k13_whole_orders_and_bytes).prog.main.file
def ex (K : PySem.W.Frag) : Bool := exTB K CTh && (xinB K fileS xd_InvalidPaper && (xinB K fileS xd_NotUsable))
def tq : List (He.Defn × Str) := [(("_law_bytes_right", none), "_law_bytes_right.<locals>.<lambda>")]
abbrev hk : PySem.W.Hook := hookE 4 fx fn (tq.map (·.1)) ex xs pd
def ob (s : PySem.W.SharedT) : AlE := obsEG 4 fx fn (tq.map (·.1)) ex xs pd (HandSHeadRun.getT s)
theorem ob_eq (s : PySem.W.SharedT) : ob s = hk.obs s.abs := obsEG_eq (HandSHeadRun.getT_eq s)
abbrev loose : List Str := (["ByteReader", "PLAIN_SIGNS", "NUMBER_SIGNS", "SIDES", "BASE", "FIRST_NUMBER", "FIRST_SIDE", "BEHIND_SIDES", "MOST_SIDES", "is_integer", "is_number", "is_sided", "is_sign", "is_signs", "require_usable", "sign_rank", "signs_rank", "in_sign_order", "sorted_signs", "is_ahead", "number_codes", "sign_codes", "packed", "unpacked", "require_paper", "lets_signs", "_law_feed", "_law_draw", "_law_sign", "_law_signs"] : List Str) ++ (["_law_heard", "_law_order_right", "_law_sorted_right", "_law_bytes_right", "BarError", "PaperError", "WorkError", "LiveError", "TextError", "InvalidPaper", "NotUsable", "NotNext", "InvalidText", "InvalidRow"] : List Str)
theorem run (w : World) : HandSHeadRun.RunEq Rw (PySem.W.view Rw.prog [51]) hk ob 8000 loose w := by
  intro os
  kernel_rfl
open PySem PySem.W PySem.Calls PyProof.Rows in
theorem head_of (F : ∀ (w : World) (mg : Str → Option Value) (fa : Addr) (h : Heap) (K : PySem.W.Frag), K.In h → SaysE fx fn (tq.map (·.1)) ex xs pd h K → h.Ns mainGlobals mg → mg ("law" : Str) = some (.ref fa) →
      ∃ (K : PySem.W.Frag) (fd : FuncData) (sp : DSp) (T : List (Addr × Str)) (cs : List (Addr × Addr)), K.In h ∧ (∀ (s : Shared) (u : Value), BindsTo s fd ⟨[u], []⟩ [("_law_script", u)]) ∧
        (∀ p ∈ T, h.get? p.1 = some { cls := .none, data := .fields #[] }) ∧ (∀ p ∈ T, K.lookup p.1 = none) ∧ (∀ p ∈ cs, p.2 ∈ T.map (·.1)) ∧ (∀ p ∈ T, ∃ c, (c, p.1) ∈ cs) ∧ (∀ p ∈ cs, PySem.W.CodeHd h p.1 p.2) ∧
        (∀ ns : List Int, ns.length ≤ 63 → sp [.scr ns] (tabG T) (fun d _ => d = .bl true) noX) ∧
        ∀ base : Heap, K.In base → base.Ns mainGlobals mg → (∀ p ∈ cs, LamX.TabB base mg p.1 p.2) → DFn (PySem.Challenge.rw_honestbars_k13_whole_orders_and_bytes).prog w K mg base 11 fa fd ["_law_script"] sp) : PySem.Challenge.rw_honestbars_k13_whole_orders_and_bytes.Holds := by
  w_on; o_law
  refine HandSHeadRun.head_any (r := OpenLaw.row PySem.Challenge.rw_honestbars_k13_whole_orders_and_bytes) (q := view (OpenLaw.row PySem.Challenge.rw_honestbars_k13_whole_orders_and_bytes).prog [51]) (H := K13.hk) (ob := K13.ob) (M := 8000) (loose := K13.loose) (d := HandSHeadRun.topDef (OpenLaw.row PySem.Challenge.rw_honestbars_k13_whole_orders_and_bytes).prog 51) (kwd := []) K13.ob_eq
    (by kernel_rfl) (fun s => by kernel_rfl) K13.run (by kernel_rfl) (by kernel_rfl) (by kernel_rfl) (by rfl) (by first | assumption | decide +kernel) (by decide +kernel) ⟨rfl, rfl, rfl, rfl, rfl, by decide +kernel⟩ ?hw ?hc
  case hw => w_witness2
  case hc =>
    refine Dl.d_walkT (l := PySem.Challenge.rw_honestbars_k13_whole_orders_and_bytes) (n := 63) (k := 11) (x := "_law_script") rfl (by decide) (by kernel_rfl) ⟨rfl, by decide, by decide⟩ rfl ?F
    intro w mg fa h Y G hmg0
    obtain ⟨K, KX, c⟩ := Y
    have hmg : mg ("law" : PySem.Str) = some (.ref fa) := by
      have e : (HandSHeadRun.topDef (OpenLaw.row PySem.Challenge.rw_honestbars_k13_whole_orders_and_bytes).prog 51).name = ("law" : PySem.Str) := by kernel_rfl
      rw [← e]
      exact hmg0
    exact F w mg fa h K KX c G hmg
end K13

namespace Dl
open PySem L2 PyProof.Rows LamX
section
variable {X : Cx} {pins : List (Addr × Obj)} {σ : L2.St} {H : Hp} {s : Shared}
end
section
variable {X : Cx} {pins : List (Addr × Obj)} {σ : L2.St} {ρX : DSt} {k n : Nat} {x : Str} {rH : Act → DTS} {Ls : List LamI} {e : Expr} {te : DTE} {p pos : Pos}
end
section
variable {X : Cx} {k n iy : Nat} {x y : Str} {rH : Act → DTS} {Ls : List LamI} {tc : DTE} {r : DR2} {wi : DTI}
end
section
variable {X : Cx}
theorem all_cons {k : Nat} {l : LamI} {Ls : List LamI} (h : LamOf X k l) (t : ∀ l ∈ Ls, LamOf X k l) : ∀ l' ∈ l :: Ls, LamOf X k l' := fun l' hl => (List.mem_cons.mp hl).elim (fun e => e ▸ h) (t l')
end
end Dl

namespace Dl
open PySem L2 PyProof.Rows
section
variable {X : Cx}
end
section
variable {K : PySem.W.Frag} {G : GH} {H : Hp}
end
section
variable {X : Cx}
end
end Dl


namespace Dl
open PySem PySem.Spec PyProof.Rows L2
section
variable {z TI TO i1 i2 a b : Addr}
end
section
variable {X : Cx}
end
end Dl

namespace Dl
open PySem L2
abbrev KT := List Key
def getT : List (KT × D) → KT → Option D
  | [], _ => none
  | p :: r, k => if p.1 = k then some p.2 else getT r k
section
variable {K : PySem.W.Frag} {G : GH} {H : Hp} {k : KT}
end

theorem lookup_in {a : Addr} {o : Obj} : ∀ {K : PySem.W.Frag}, K.lookup a = some o → ∃ b, (b, o) ∈ K
  | (b, u) :: r, h => by
    by_cases hb : (a == b) = true
    · simp only [List.lookup, hb, Option.some.injEq] at h
      subst h
      exact ⟨b, List.mem_cons_self ..⟩
    · have hb' : (a == b) = false := by simpa using hb
      simp only [List.lookup, hb'] at h
      obtain ⟨c, hc⟩ := lookup_in h
      exact ⟨c, List.mem_cons_of_mem _ hc⟩
section
variable {X : Cx}
end
end Dl

namespace Dl
open PySem L2
section
variable {t u : XTS} {te : XTE} {ta : XTA} {tc : XTT} {tr : XTA} {E : DEnds} {Z : DZ} {ρ : DSt} {G : GH} {Q : DK} {Ql : List D → GH → Prop}
theorem iXPe {t : DTE} (h : t ρ G Q) : xPe t Z ρ G Q := h
theorem iXPa {t : DTA} (h : t ρ G Ql) : xPa t Z ρ G Ql := h
theorem iXPt {t : DTT} {Qb : Bool → GH → Prop} (h : t ρ G Qb) : xPt t Z ρ G Qb := h
theorem iXPs {t : DTS} (h : t E ρ G) : xPs t Z E ρ G := h
theorem iXSeq (h : t Z { E with nx := u Z E } ρ G) : xSeq t u Z E ρ G := h
theorem iXDrop (h : te Z ρ G fun _ G1 => E.nx ρ G1) : xDrop te Z E ρ G := h
theorem iXRet (h : te Z ρ G E.rt) : xRet te Z E ρ G := h
theorem iXIfS (h : tc Z ρ G fun b G1 => if b = true then t Z E ρ G1 else u Z E ρ G1) : xIfS tc t u Z E ρ G := h
theorem iXAsg {g : DTG} (h : te Z ρ G fun x G1 => g x ρ G1 E.nx) : xAsg te g Z E ρ G := h
theorem iXCons (h : te Z ρ G fun x G1 => tr Z ρ G1 fun xs G2 => Ql (x :: xs) G2) : xCons te tr Z ρ G Ql := h
theorem iXTup (h : ta Z ρ G fun xs G1 => xs.length ≤ sizeLine ∧ Q (.tup xs) G1) : xTup ta Z ρ G Q := h
theorem iXOp {r : DR2} {tb : XTE} (h : te Z ρ G fun x G1 => tb Z ρ G1 fun y G2 => r x y G2 Q) : xOp r te tb Z ρ G Q := h
theorem iXCall {sp : DSp} (h : ta Z ρ G fun ds G1 => sp ds G1 Q fun x G2 => Z x ρ G2) : xCall sp ta Z ρ G Q := h
theorem iXRaise {x : Str} {fl : List Str} (h : ta Z ρ G fun ds G1 => ds.length = fl.length ∧ Z ⟨x, (fl.zip ds).reverse⟩ ρ G1) : xRaise x fl ta Z E ρ G := h
theorem iDSeqTry {CT : CTab} {T : Str} {i : Nat} {tb : XTS} {ts : Addr → Str → Addr → DTS} (h : tb (fun x ρ' G' => (∃ as fs, (x.cls, as, fs) ∈ CT ∧ as.contains T = true) ∧
  ∀ a d, ts a x.cls d { nx := fun ρ2 G2 => E.nx (ρ2.set i none) G2, rt := E.rt, bk := fun ρ2 G2 => E.bk (ρ2.set i none) G2, ct := fun ρ2 G2 => E.ct (ρ2.set i none) G2 } (ρ'.set i (some (.exh a x.cls d (x.fs.map (·.1)) (x.fs.map (·.2))))) G') E ρ G) : dTry CT T i tb ts E ρ G := h
theorem iIsX {CT : CTab} {a d : Addr} {c T : Str} {te : DTE} (h : te ρ G fun v G1 => (∃ ns vs, v = .exh a c d ns vs) ∧ ∃ as fs, (c, as, fs) ∈ CT ∧ T ∈ CT.names ∧ Q (.bl (as.contains T)) G1) : dIsX CT a c d te T ρ G Q := h
theorem iExf {CT : CTab} {a d : Addr} {c f : Str} {te : DTE} (h : te ρ G fun v G1 => ∃ ns vs y, v = .exh a c d ns vs ∧ (∃ as fs, (c, as, fs) ∈ CT ∧ f ∈ fs) ∧ (ns.zip vs).lookup f = some y ∧ Q y G1) : dExf CT a c d te f ρ G Q := h
theorem iXAct {i : Nat} {α : Act} (e : sl ρ i = some α.d) (h : α.tl (fun x G' => Z x ρ G') G Q) : xAct i α Z ρ G Q := ⟨e, h⟩
end
def pSpX (R : List D → Except DX D → Prop) : DSp := fun ds G Q E => ∃ o, R ds o ∧ ∀ G', Grow G G' → (match o with | .ok d => Q d G' | .error x => E x G')
theorem pSpX_ok {R : List D → Except DX D → Prop} {ds : List D} {G : GH} {Q : DK} {E : DXK} {d : D} (r : R ds (.ok d)) (h : ∀ G', Grow G G' → Q d G') : pSpX R ds G Q E := ⟨.ok d, r, h⟩
end Dl

namespace Dl
open PySem PySem.Spec PyProof.Rows L2 LamX
def tabsT (K : PySem.W.Frag) (tq : List (He.Defn × Str)) : List (Addr × Str) := tq.map fun p => ((He.cT K p.1).2, p.2)
def csT (K : PySem.W.Frag) (tq : List (He.Defn × Str)) : List (Addr × Addr) := tq.map fun p => He.cT K p.1
section
variable {fx : List Fx} {fn : List He.DefD} {tq : List (He.Defn × Str)} {ex : PySem.W.Frag → Bool} {xs : List XD} {pd : List PDef} {h : Heap} {K : PySem.W.Frag}
theorem SaysE.empty' (c : SaysE fx fn (tq.map (·.1)) ex xs pd h K) : ∀ p ∈ tabsT K tq, h.get? p.1 = some { cls := .none, data := .fields #[] } := fun p hp => by
  obtain ⟨q, hq, rfl⟩ := List.mem_map.mp hp
  exact c.empty _ (List.mem_map_of_mem hq)
theorem SaysE.out' (c : SaysE fx fn (tq.map (·.1)) ex xs pd h K) : ∀ p ∈ tabsT K tq, K.lookup p.1 = none := fun p hp => by
  obtain ⟨q, hq, rfl⟩ := List.mem_map.mp hp
  exact c.out _ (List.mem_map_of_mem hq)
theorem csT_in : ∀ p ∈ csT K tq, p.2 ∈ (tabsT K tq).map (·.1) := fun p hp => by
  obtain ⟨q, hq, rfl⟩ := List.mem_map.mp hp
  exact List.mem_map.mpr ⟨_, List.mem_map_of_mem hq, rfl⟩
theorem tabsT_cs : ∀ p ∈ tabsT K tq, ∃ c, (c, p.1) ∈ csT K tq := fun p hp => by
  obtain ⟨q, hq, rfl⟩ := List.mem_map.mp hp
  exact ⟨_, List.mem_map_of_mem (f := fun p : He.Defn × Str => He.cT K p.1) hq⟩
theorem SaysE.hd' (c : SaysE fx fn (tq.map (·.1)) ex xs pd h K) (X : K.In h) : ∀ p ∈ csT K tq, PySem.W.CodeHd h p.1 p.2 := fun p hp => by
  obtain ⟨q, hq, rfl⟩ := List.mem_map.mp hp
  exact PySem.W.codeHd_of_K X (c.hd _ (List.mem_map_of_mem hq))
theorem SaysE.at_ (c : SaysE fx fn (tq.map (·.1)) ex xs pd h K) (i : Nat) {p : He.Defn} {q : Str} (e : tq[i]? = some (p, q) := by rfl) : tabG (tabsT K tq) (He.cT K p).2 = some (.tab q) := by
  have nd : ((tabsT K tq).map (·.1)).Nodup := by
    have z := c.nd
    rw [List.map_map] at z
    unfold tabsT
    rw [List.map_map]
    exact z
  exact tabG_at nd (List.mem_map_of_mem (f := fun p : He.Defn × Str => ((He.cT K p.1).2, p.2)) (List.mem_of_getElem? e))
theorem csT_at (i : Nat) {p : He.Defn} {q : Str} (e : tq[i]? = some (p, q) := by rfl) : He.cT K p ∈ csT K tq := List.mem_map_of_mem (f := fun p : He.Defn × Str => He.cT K p.1) (List.mem_of_getElem? e)
end
theorem funD_code {K : PySem.W.Frag} {x qual : Str} {params : Arguments} {body : List Stmt} {scope : Scope} {dvs : List V} {kws : List (Str × V)} {p : He.Defn} {fd : FuncData} (F : FunD K x qual params body scope dvs kws (He.fAd K p) fd) : fd.code = .ref (He.cT K p).1 := by
  obtain ⟨oc, od, dV, kV, doc, pm, an, cdv, ct, osl, rfl, lk, hcd, _⟩ := F.ex
  obtain ⟨c, rfl⟩ := He.codeIn_ref hcd
  show _ = Value.ref (He.codeOf K p)
  rw [He.codeOf_eq lk rfl]
end Dl

namespace Dl
open PySem PySem.Spec PyProof.Rows L2
section
variable {K : PySem.W.Frag} {G : GH} {H : Hp}
theorem SltD.slt {a : Addr} {c : Str} {vs : List (Option D)} (h : SltD K G H a c vs) : ∃ dx ws, SlX.Slt H a (He.ga K c) dx ws ∧ RepO K G H vs ws := by
  obtain ⟨dx, ws, g, h1, h2, r⟩ := h
  exact ⟨dx, ws, .inr ⟨h1, h2⟩, r⟩
end
section
variable {X : Cx} {e o value : Expr} {c f : Str} {pos pos' : Pos} {te to tv : DTE} {p : Addr} {i : Nat}
end

structure PCallee (P : Program) (w : World) (K : PySem.W.Frag) (mg : Str → Option Value) (base : Heap) (k : Nat) (c f : Str) (sp : DSp) : Prop where
  ex : ∃ (p g : Addr) (fd : FuncData) (x : Str), DFn P w K mg base k g fd [x] sp ∧ SlX.SCls K (He.ga K c) ∧ PropOf K (He.ga K c) f p g ∧ Binds K fd [x] []
section
variable {X : Cx} {CX : CXT} {k : Nat} {C g p : Addr} {fd : FuncData} {ps : List Str} {x f m : Str} {pos apos : Pos} {e o : Expr} {es : List Expr} {E : XK} {ta : TE} {t : TA} {sp : Sp}
end
section
variable {X : Cx} {k : Nat} {c f x : Str} {pos : Pos} {e : Expr} {te : DTE} {sp : DSp}
end

structure MCalleeX (P : Program) (w : World) (K : PySem.W.Frag) (mg : Str → Option Value) (base : Heap) (k : Nat) (c m : Str) (n : Nat) (ks : List Str) (src : List (Nat × Nat)) (dv : List D) (sp : DSp) : Prop where
  ex : ∃ f fd ps, XFn P w K mg base k f fd ps sp ∧ SlX.SCls K (He.ga K c) ∧ Meth K (He.ga K c) m f ∧ ∃ (its : List Value) (dvs : List V), Vals dvs its ∧ (∀ G H, RepL K G H dv dvs) ∧
    ∀ (s : Shared) (us ws : List Value), K.In s.heap → us.length = n → ws.length = ks.length → BindsTo s fd ⟨us, ks.zip ws⟩ (ps.zip (pick src us its ws))
section
variable {X : Cx} {W : WX} {k n : Nat} {c m : Str} {ks : List Str} {src : List (Nat × Nat)} {dv : List D} {sp : DSp} {pos apos : Pos} {e o : Expr} {es : List Expr} {to : DTE} {ta tk : DTA} {kws : List Keyword} {pl : Sem Bool}
end
section
variable {X : Cx}
end
end Dl

namespace Dl
open PySem PySem.Spec PyProof.Rows L2 StX
structure VFn (P : Program) (w : World) (K : PySem.W.Frag) (mg : Str → Option Value) (base : Heap) (k : Nat) (f : Addr) (n : Nat) (ks : List Str) (src : List (Nat × Nat)) (sp : DSp) : Prop where
  go : ∀ (A : Around) (out : List Env) (st : Shared) (H : Hp) (us ws : List Value) (xs zs : List V) (Q : VK) (E : XK), Room k A → A.guards = some [] → Env0 P w K mg base A out st H → us.length = n → ws.length = ks.length → Vals xs us → Vals zs ws →
    toSp K sp (pick src xs [] zs) H Q E → codeAny (model P w) A (.call (.ref f) ⟨us, ks.zip ws⟩) (CR (L2.CX P w) out P w H st Q E) st
structure SMaker (P : Program) (w : World) (K : PySem.W.Frag) (mg : Str → Option Value) (base : Heap) (k : Nat) (c : Str) (n : Nat) (ks : List Str) (src : List (Nat × Nat)) (sp : DSp) : Prop where
  ex : ∃ f, VFn P w K mg base k f (n + 1) ks src sp ∧ Mk K (He.ga K c) f ∧ mg c = some (.ref (He.ga K c))
section
variable {X : Cx} {W : WX} {k n : Nat} {c : Str} {ks : List Str} {src : List (Nat × Nat)} {sp : DSp} {p pos : Pos} {e : Expr} {es : List Expr} {ta tk : DTA} {kws : List Keyword} {f C : Addr}
end
end Dl

namespace Dl
open PySem PySem.Spec PyProof.Rows L2
section
variable {prog : Program} {w : World} {A : Around} {E : Value → Shared → Prop} {s : Shared} {K : PySem.W.Frag} {a C g : Addr} {ox od : Obj}
end
structure QCallee (P : Program) (w : World) (K : PySem.W.Frag) (mg : Str → Option Value) (base : Heap) (k : Nat) (c m : Str) (sp : DSp) : Prop where
  ex : ∃ f fd ps, DFn P w K mg base k f fd ps sp ∧ SlX.SCls K (He.ga K c) ∧ Meth K (He.ga K c) m f ∧ Binds K fd ps []
section
variable {X : Cx} {k : Nat} {c : Str} {sp : DSp}
end
end Dl

namespace Dl
open PySem PySem.Spec PyProof.Rows L2
end Dl

namespace Dl
open PySem PySem.Spec PyProof.Rows L2
section
variable {X : Cx} {e o value : Expr} {c f : Str} {pos pos' : Pos} {te to tv : DTE} {i : Nat}
end
end Dl
namespace Dl
open PySem PySem.Spec PyProof.Rows L2
theorem DFn.x {P : Program} {w : World} {K : PySem.W.Frag} {mg : Str → Option Value} {base : Heap} {k : Nat} {f : Addr} {fd : FuncData} {ps : List Str} {sp : DSp} (F : DFn P w K mg base k f fd ps sp) : XFn P w K mg base k f fd ps sp :=
  ⟨F.arity, fun A out st H ar us xs Q E hr hg he hb hv hs => codeAny_mono (F.go A out st H ar us xs Q E hr hg he hb hv hs) fun r s' z => by
    cases r with
    | error e => exact False.elim z
    | ok fl => cases fl <;> exact z⟩
section
variable {P : Program} {w : World} {K : PySem.W.Frag} {mg : Str → Option Value} {base : Heap} {k n : Nat} {c m qual : Str} {params : Arguments} {body : List Stmt} {scope : Scope} {fd : FuncData} {ps ks : List Str} {src : List (Nat × Nat)} {sp : DSp}
end
end Dl
namespace Dl
open PySem PySem.Spec PyProof.Rows L2
end Dl

namespace Dl
open PySem L2
section
variable {ρ : DSt} {G : GH} {Q : DK} {c : Str} {i n m : Nat} {te to : DTE} {ta tk : DTA} {sp : DSp} {src : List (Nat × Nat)} {dv : List D} {Z : DZ}
end
theorem lcFtR {α : Type} (xs : List α) (g h : α → D) (p : α → Bool) {wi : DTI} {ct : CT} {tt : DTT} {te : DTE} {ρ : DSt} {vs : List Nat} {G : GH} {Q : DK} (hw : ∀ P : List D → (GH → Prop) → GH → Prop, (∀ ok G1, (∀ G, Grow G1 G → ok G) → Grow G G1 → P (xs.map g) ok G1) → wi ρ G P)
    (hl : xs.length ≤ sizeLine) (hf : ∀ x ∈ xs, ∃ ρ2, bindC ct (g x) (wipeD ρ vs) = some ρ2 ∧ (∀ (G : GH) (K : Bool → GH → Prop), (∀ G', Grow G G' → K (p x) G') → tt ρ2 G K) ∧ (p x = true → ∀ (G : GH) (K : DK), (∀ G', Grow G G' → K (h x) G') → te ρ2 G K))
    (hq : ∀ G', Grow G G' → Q (.lst ((xs.filter p).map h)) G') : dLc wi ct tt te vs ρ G (frzK Q) := by
  unfold dLc
  refine hw _ ?_
  intro ok G1 hok g1 a ha
  have key : ∀ (rs : List α) (acc : List D) (G' : GH), (∀ x ∈ rs, x ∈ xs) → acc.length + rs.length ≤ xs.length → acc ++ (rs.filter p).map h = (xs.filter p).map h → Grow G1 G' → G' a = some (.lst acc) → dLcGo ok ct tt te (wipeD ρ vs) a (rs.map g) G' (frzK Q) := by
    intro rs
    induction rs with
    | nil =>
      intro acc G' _ _ e gg ea
      refine ⟨hok _ gg, frzR ea ?_⟩
      have e2 : acc = (xs.filter p).map h := by simpa using e
      rw [e2]
      exact hq _ (g1.trans (Grow.drop ha gg))
    | cons r rs ih =>
      intro acc G' hm hl2 e gg ea
      rw [List.length_cons] at hl2
      obtain ⟨ρ2, e2, kt, ke⟩ := hf r (hm r (List.mem_cons_self ..))
      rw [List.map_cons]
      unfold dLcGo
      refine ⟨hok _ gg, ?_⟩
      rw [e2]
      refine kt _ _ fun G3 g3 => ?_
      cases hp : p r with
      | false =>
        refine ifF ?_
        rw [List.filter_cons_of_neg (by rw [hp]; decide)] at e
        exact ih acc G3 (fun x hx => hm x (List.mem_cons_of_mem _ hx)) (by omega) e (gg.trans g3) (g3 _ _ ea)
      | true =>
        refine ifT ?_
        rw [List.filter_cons_of_pos hp] at e
        refine ke hp _ _ fun G4 g4 => ?_
        have ea4 := g4 _ _ (g3 _ _ ea)
        rw [ea4]
        refine ⟨by omega, ?_⟩
        refine ih (acc ++ [h r]) _ (fun x hx => hm x (List.mem_cons_of_mem _ hx)) (by rw [List.length_append, List.length_singleton]; omega) ?_ (Grow.upd2 ha ((gg.trans g3).trans g4)) updG_same
        rw [← e]; simp
  exact key xs [] _ (fun _ h => h) (by simp) (by simp) (Grow.upd ha) updG_same
end Dl

namespace Dl
open PySem L2
abbrev KT2 := List Key
section
variable {K : PySem.W.Frag} {G : GH} {H : Hp} {k : KT2}
end

section
variable {X : Cx}
end
end Dl

namespace Dl
open PySem L2 PyProof.Rows

@[simp] def dPar3 (i j l : Nat) (ta : DTA) : DTS := fun E ρ G => ta ρ G fun ds G1 => match ds with
  | [u, v, w] => E.nx (((ρ.set i (some u)).set j (some v)).set l (some w)) G1
  | _ => False
section
variable {X : Cx}
end

section
variable {X : Cx}
end
section
variable {X : Cx}
end
section
variable {X : Cx}
end
theorem Callee.x {P : Program} {w : World} {K : PySem.W.Frag} {mg : Str → Option Value} {base : Heap} {k : Nat} {x : Str} {ps : List Str} {sp : DSp} (C : Callee P w K mg base k x ps sp) : XCallee P w K mg base k x ps sp := by
  obtain ⟨f, fd, F, a⟩ := C.ex
  exact ⟨f, fd, DFn.x F, a⟩
end Dl

namespace Dl
open PySem L2 PyProof.Rows
abbrev RoomE := L2H.RoomH
structure EFn (P : Program) (w : World) (K : PySem.W.Frag) (mg : Str → Option Value) (base : Heap) (k : Nat) (f : Addr) (fd : FuncData) (x : Str) (rE : Addr → Str → Addr → DTS) (n : Nat) : Prop where
  go : ∀ (A : Around) (out : List Env) (st : Shared) (H : Hp) (ar : Args) (u : Value) (v : V) (a : Addr) (oe : Obj) (c : Str) (d : Addr) (ns : List Str) (vs : List D) (G : GH) (q : DK) (Q : VK),
    RoomE k A → A.guards = some [] → A.handled = some (.ref a) → Zc (.ref (He.ga K c)) (some d) oe → (∃ vs, oe.data = .fields vs) → L2H.PinOk out H st (a, oe) → Env0 P w K mg base A out st H → BindsTo st fd ar [(x, u)] → RelV v u →
    RepV K G H (.exh a c d ns vs) v → GOk K G H → rE a c d { nx := fun _ G' => q .non G', rt := q } (startD n [.exh a c d ns vs]) G → (∀ v d H' G', Ext G H G' H' → GOk K G' H' → RepV K G' H' d v → q d G' → Q v H') →
    codeAny (model P w) A (.call (.ref f) ar) (CR CX0 out P w H st Q E0) st
structure ECallee (P : Program) (w : World) (K : PySem.W.Frag) (mg : Str → Option Value) (base : Heap) (k : Nat) (x : Str) (rE : Addr → Str → Addr → DTS) (n : Nat) : Prop where
  ex : ∃ f fd p, EFn P w K mg base k f fd p rE n ∧ mg x = some (.ref f) ∧ PySem.W.keepIn K (.ref f) = true ∧ Binds K fd [p] []
end Dl

namespace Dl
open PySem L2
section
variable {E : DEnds} {ρ : DSt} {G : GH} {Q : DK} {te ta tb : DTE} {tl : DTA} {tc tu tv : DTT} {Qb : Bool → GH → Prop}
theorem iPar3 {i j l : Nat} (h : tl ρ G fun ds G1 => match ds with
  | [u, v, w] => E.nx (((ρ.set i (some u)).set j (some v)).set l (some w)) G1
  | _ => False) : dPar3 i j l tl E ρ G := h
end
end Dl

namespace Dl
open PySem L2
section
variable {X : Cx}
end
end Dl

namespace Dl
open PySem L2
end Dl

namespace Dl
open PySem L2
section
variable {X : Cx} {W : WX}
end
end Dl


namespace Dl
open PySem PySem.W L2 PyProof.Rows
def bD (ns : List Int) : D := .byt (byteArr ns)
theorem byt_rv {K : PySem.W.Frag} {G : GH} {H : Hp} {b : Array UInt8} : RepV K G H (.byt b) (.byt b) := by unfold RepV; rfl
theorem rv_byt {K : PySem.W.Frag} {G : GH} {H : Hp} {b : Array UInt8} {v : V} (r : RepV K G H (.byt b) v) : v = .byt b := by unfold RepV at r; exact r
@[simp] def rBytC : DRC := fun ds G Q => arg1 ds fun x => intsP G x fun ns => B8 ns ∧ Q (bD ns) G
@[simp] def rLenB : DRC := fun ds G Q => arg1 ds fun x => match x with
  | .byt b => b.size ≤ sizeLine ∧ Q (.int (b.size : Nat)) G
  | x => Dl.rLen [x] G Q
def rIxB : DR2 := fun x y G Q => match x with
  | .byt b => (match y with
    | .int i => b.size ≤ sizeLine ∧ 0 ≤ i ∧ i < (b.size : Nat) ∧ Q (.int ((b.toList.getD i.toNat 0).toNat : Nat)) G
    | _ => False)
  | _ => False
def rSlBy : D → Option Int → Option Int → GH → DK → Prop := fun x lo hi G Q => match x with
  | .byt b => b.size ≤ 16777216 ∧ Q (.byt (PySem.W.KBy.picked b lo hi)) G
  | _ => False
def rAddB : DR2 := fun x y G Q => match x with
  | .byt a => (match y with
    | .byt b => a.size + b.size ≤ 16777216 ∧ Q (.byt (a ++ b)) G
    | _ => False)
  | _ => False
def dSlB (te : DTE) (tl th : DTO) : DTE := fun ρ G Q => te ρ G fun x G1 => tl ρ G1 fun l G2 => th ρ G2 fun u G3 => rSlBy x l u G3 Q
section
variable {X : Cx}
theorem c_bytes (hc : X.calm = true) : DCall X (.type "bytes") rBytC := by
  intro pins s σ H xs us Q I r ⟨G, ds, q, g, rl, h0, k⟩
  obtain ⟨d, rfl, h⟩ := arg1_of h0
  obtain ⟨x, rfl, rx⟩ := repL_1 rl
  obtain ⟨a, ns, rfl, hs, h⟩ := ints_of g rx h
  exact call_bytes_list hc pins s σ H _ us Q I r ⟨a, ns, rfl, hs, h.1, k _ _ H G (Ext.refl G H) g byt_rv h.2⟩
theorem c_lenB : DCall X (.builtin "len") rLenB := by
  intro pins s σ H xs us Q I r ⟨G, ds, q, g, rl, h0, k⟩
  obtain ⟨d, rfl, h⟩ := arg1_of h0
  obtain ⟨x, rfl, rx⟩ := repL_1 rl
  cases d with
  | byt b =>
    cases rv_byt rx
    exact call_len pins s σ H _ us Q I r ⟨_, b.size, rfl, ⟨h.1, rfl⟩, k _ _ H G (Ext.refl G H) g int_rv h.2⟩
  | _ => exact c_len pins s σ H _ us Q I r ⟨G, [_], q, g, repL_one rx, h, k⟩
theorem de_ixB {a b : Expr} {ta tb : DTE} {pos : Pos} (ha : DE X a ta) (hb : DE X b tb) (hs : PlainIxT b := by exact fun _ _ => rfl) : DE X (.Subscript a b pos) (dOp rIxB ta tb) := by
  refine (pe_item_byt ha hb hs).imp fun σ H Q ⟨ρ, G, q, r0, h, k⟩ => ?_
  refine ⟨ρ, G, _, r0, h, fun x dx H1 G1 e1 r1 v1 h1 => ?_⟩
  refine ⟨ρ, G1, _, r1, h1, fun y dy H2 G2 e2 r2 v2 h2 => ?_⟩
  cases dx with
  | byt b =>
    cases dy with
    | int i =>
      cases rv_byt v1
      cases rv_int v2
      obtain ⟨h3, h4, h5, h6⟩ := h2
      exact ⟨b.toList, i, by rw [Array.toArray_toList], rfl, by rw [Array.length_toList]; exact h3, h4, by rw [Array.length_toList]; exact h5, k _ _ H2 G2 (e1.trans e2) r2 int_rv h6⟩
    | _ => exact h2.elim
  | _ => exact h2.elim
theorem o_addB : DOp X (binaryOp .Add) rAddB := by
  intro pins s σ H x y v u Q I rx ry ⟨G, dx, dy, q, g, r1, r2, h, k⟩
  cases dx with
  | byt a =>
    cases dy with
    | byt b =>
      cases rv_byt r1
      cases rv_byt r2
      exact op_add_byt pins s σ H _ _ v u Q I rx ry ⟨a, b, rfl, rfl, h.1, k _ _ H G (Ext.refl G H) g byt_rv h.2⟩
    | _ => exact h.elim
  | _ => exact h.elim
theorem sl_by : SlR X (upSl X.K rSlBy) := by
  intro pins s σ H x v vl vu lo hi sl Q I rx hs pl pu ⟨G, d, q, g, r, h, k⟩
  cases d with
  | byt b =>
    cases rv_byt r
    exact sl_byt pins s σ H _ v vl vu lo hi sl Q I rx hs pl pu ⟨b, rfl, h.1, k _ _ H G (Ext.refl G H) g byt_rv h.2⟩
  | _ => exact h.elim
theorem de_sliceB {e : Expr} {lo hi : Option Expr} {te : DTE} {tl th : DTO} {p2 pos : Pos} (he : DE X e te) (hl : DO' X lo tl) (hh : DO' X hi th) : DE X (.Subscript e (.Slice lo hi none p2) pos) (dSlB te tl th) := by
  refine (pe_slice sl_by he hl hh).imp fun σ H Q ⟨ρ, G, q, r, h, k⟩ => ?_
  refine ⟨ρ, G, _, r, h, fun x dx H1 G1 e1 r1 v1 h1 => ?_⟩
  refine ⟨ρ, G1, _, r1, h1, fun l H2 G2 e2 r2 h2 => ?_⟩
  refine ⟨ρ, G2, _, r2, h2, fun u H3 G3 e3 r3 h3 => ?_⟩
  exact ⟨G3, dx, q, r3.gok, v1.ext (e2.trans e3), h3, fun v d H' G' e4 g4 v4 h4 => k v d H' G' (((e1.trans e2).trans e3).trans e4) (r3.ext e4 g4) v4 h4⟩
end
end Dl

namespace Dl
open PySem PySem.W L2 PyProof.Rows
def dIdxT (ys : List Str) (tx : DTE) : DTE := fun ρ G Q => tx ρ G fun y G2 => ∃ z j, y = .str z ∧ ys[j]? = some z ∧ (∀ m, m < j → ys[m]? ≠ some z) ∧ Q (.int (j : Nat)) G2
theorem repL_strs {K : PySem.W.Frag} {G : GH} {H : Hp} : ∀ {ys : List Str} {xs : List V}, RepL K G H (ys.map D.str) xs → xs = ys.map V.str
  | [], _, r => by unfold RepL at r; exact r
  | y :: ys, _, r => by
    rw [List.map_cons] at r
    unfold RepL at r
    obtain ⟨x, t, rfl, h1, h2⟩ := r
    rw [rv_str h1, repL_strs h2]; rfl
section
variable {X : Cx} {o x : Expr} {to tx : DTE} {apos cpos : Pos}
theorem lookup_at {K : PySem.W.Frag} {ds : List D} {v : V} (td : TdN K) (hv : ∀ G H, RepV K G H (.tup ds) v) : ∃ a o, v = .ref a ∧ K.lookup a = some o ∧ o.cls = .type "tuple" ∧ o.dict = none := by
  have h := hv (fun _ => none) (fun _ => none)
  unfold RepV at h
  obtain ⟨a, xs, rfl, ta, -⟩ := h
  rcases ta with ⟨-, h⟩ | ⟨-, o, its, n, hk, hc, hd, -, -⟩
  · cases h
  · obtain ⟨b, hb⟩ := lookup_in hk
    have := List.all_eq_true.mp td (b, o) hb
    dsimp only at this
    rw [hc] at this
    refine ⟨a, o, rfl, hk, hc, ?_⟩
    cases e : o.dict with
    | none => rfl
    | some d =>
      rw [e, if_pos (by decide)] at this
      cases this
theorem de_idxT {n : Str} {ys : List Str} {np : Pos} (td : TdN X.K) (hg : Gl X n) (hm : GlD X n (.tup (ys.map D.str))) (hx : DE X x tx) (hdb : (n == ("__debug__" : Str)) = false := by decide)
    (hbase : attributeBase (.Name n np) "index" X.env (eval (.Name n np) X.env) = eval (.Name n np) X.env := by rfl)
    (hfew : ((backTo cpos (starEach [x] X.env)).all (fun x => !x.1) && (backToKw cpos (keywordEach [] X.env)).all (fun x => x.1.isSome)
      && decide ([x].length + ([] : List Keyword).length + (if ([] : List Keyword).isEmpty then 0 else 1) < 30)) = true := by rfl)
    (hline : (apos.endLine == cpos.line) = true := by rfl) (hs : starEach [x] X.env = (false, eval x X.env) :: starEach [] X.env := by rfl) (hplain : (backTo cpos (starEach [] X.env)).any (·.1) = false := by rfl) :
    DE X (.Call (.Attribute (.Name n np) "index" apos) [x] [] cpos) (dIdxT ys tx) := by
  obtain ⟨u, h1, v, h2, h3⟩ := hm
  obtain ⟨a0, ob, rfl, hk, hc, hd⟩ := lookup_at td h3
  refine (pe_bm PySem.F.plainAttrs_tuple PySem.F.slot_tuple_index PySem.F.type_tuple_index (mt_tup_index (X := X)) (pe_glob hg h1 h2 hdb) (pa_cons hx pa_nil hs) hbase hfew hline hs hplain).imp fun σ H Q ⟨ρ, G, q, r0, h, k⟩ => ?_
  refine ⟨.inr (.inl ⟨rfl, ob, hk, hc, hd⟩), ρ, G, _, r0, h, fun y dy H2 G2 e2 r2 v2 h2 => ?_⟩
  obtain ⟨z, j, rfl, hj, hno, h3'⟩ := h2
  cases rv_str v2
  obtain ⟨a2, xs2, e3, la2, rl2⟩ := tp_at (h3 G2 H2)
  cases e3
  obtain rfl := repL_strs rl2
  exact ⟨_, ys, z, j, rfl, rfl, la2, hj, hno, k _ _ H2 G2 e2 r2 int_rv h3'⟩
end
theorem idxT_i {ys : List Str} {tx : DTE} {ρ : DSt} {G : GH} {Q : DK} (h : tx ρ G fun y G2 => ∃ z j, y = .str z ∧ ys[j]? = some z ∧ (∀ m, m < j → ys[m]? ≠ some z) ∧ Q (.int (j : Nat)) G2) : dIdxT ys tx ρ G Q := h
end Dl

namespace Dl
open PySem L2
section
variable {X : Cx}
end
end Dl

namespace Dl
open PySem L2 PySem.W PySem.SeqAt PyProof.Rows
def tupI (ks : List Int) : PyData := .tuple (ks.map .int)
theorem cmpbs_ints : ∀ a b : List Int, cmpbs (a.map .int) (b.map .int) = true
  | [], [] => by simp [cmpbs]
  | [], _ :: _ => by simp [cmpbs]
  | _ :: _, [] => by simp [cmpbs]
  | x :: a, y :: b => by simp [cmpbs, cmpb, cmpbs_ints a b]
theorem plainAll_ints : ∀ a : List Int, PyData.plainAll (a.map .int) = true
  | [] => by simp [PyData.plainAll]
  | x :: a => by simp [PyData.plainAll, PyData.plain, plainAll_ints a]
def lexI : List Int → List Int → Bool
  | [], [] => false
  | [], _ :: _ => true
  | _ :: _, [] => false
  | x :: xs, y :: ys => if x = y then lexI xs ys else decide (x < y)
theorem tlt_ints : ∀ a b : List Int, tlt (keyToksAll (a.map .int)) (keyToksAll (b.map .int)) = lexI a b
  | [], [] => by rw [lexI]; exact lex_irrefl _
  | [], y :: b => by rw [lexI]; exact (tlt_short (.int y) (b.map .int)).1
  | x :: a, [] => by rw [lexI]; exact (tlt_short (.int x) (a.map .int)).2
  | x :: a, y :: b => by
    have hc := cmpbs_ints (x :: a) (y :: b)
    rw [List.map_cons, List.map_cons] at hc ⊢
    obtain ⟨c1, c2⟩ := cmpbs_cons hc
    have e0 : PyData.eqv (.int x) (.int y) = (x == y) := by simp [PyData.eqv]
    rw [lexI]
    by_cases h : x = y
    · rw [if_pos h, tlt_yes c1 (by rw [e0]; simpa using h), tlt_ints a b]
    · rw [if_neg h, tlt_no c1 (by rw [e0]; simpa using h), dataLt_int]
def TI (h : Heap) (v : Value) (ks : List Int) : Prop := ∃ as, Reads h v (tupI ks) as
theorem TI.keep {h h' : Heap} {v : Value} {ks : List Int} (t : TI h v ks) (k : ∀ b o, h.get? b = some o → h'.get? b = some o) : TI h' v ks := by
  obtain ⟨as, r⟩ := t
  exact ⟨as, PyProof.Rows.Reads.keeps k r⟩
theorem TI.read {h : Heap} {v : Value} {ks : List Int} (t : TI h v ks) : readOf h v = tupI ks := by
  obtain ⟨as, r⟩ := t
  exact readOf_plain (by rw [tupI, PyData.plain]; exact plainAll_ints ks) r
theorem TI.isT {h : Heap} {v : Value} {ks : List Int} (t : TI h v ks) : ∃ a o xs n, v = .ref a ∧ h.get? a = some o ∧ o.cls = .type "tuple" ∧ o.data = .seq xs n ∧ xs.size = ks.length := by
  obtain ⟨as, r⟩ := t
  unfold tupI at r
  cases r with
  | @tuple l o xs n _ _ h1 h2 h3 h4 =>
    have := ReadsAll.length _ _ _ h4
    exact ⟨_, _, _, _, rfl, h1, h2, h3, by simpa using this⟩
section
variable {M : Model} {A : Around} {E : Value → Shared → Prop} {s : Shared}
end
section
variable {prog : Program} {w : World} {A : Around} {E : Value → Shared → Prop} {s : Shared}
end
section
variable {P : Program} {w : World} {A : Around} {E : Value → Shared → Prop} {s : Shared}
end
theorem lexI_irr : ∀ a : List Int, lexI a a = false
  | [] => rfl
  | x :: a => by rw [lexI, if_pos rfl, lexI_irr a]
theorem lexI_tri : ∀ a b : List Int, lexI a b = false → lexI b a = false → a = b
  | [], [], _, _ => rfl
  | [], _ :: _, h, _ => by simp [lexI] at h
  | _ :: _, [], _, h => by simp [lexI] at h
  | x :: a, y :: b, h, h2 => by
    rw [lexI] at h h2
    by_cases e : x = y
    · subst e
      rw [if_pos rfl] at h h2
      rw [lexI_tri a b h h2]
    · rw [if_neg e] at h
      rw [if_neg (fun z => e z.symm)] at h2
      simp only [decide_eq_false_iff_not] at h h2
      omega
section
variable {K : PySem.W.Frag} {G : GH} {H : Hp}
end
section
variable {X : Cx}
end
end Dl

namespace Dl
open PySem L2
end Dl


namespace Dl
open PySem PySem.Spec PyProof.Rows L2 RZ
section
variable {X : Cx}
end
end Dl

namespace Dl
open PySem L2
end Dl

namespace Dl
open PySem L2
section
variable {X : Cx}
end
end Dl

namespace Dl
open PySem PySem.Spec PyProof.Rows L2
section
variable {P : Program} {w : World} {K : PySem.W.Frag} {d : Addr} {o : Obj} {es : Array DictEntry} {ep : Nat}
end
section
variable {X : Cx} {e : Expr} {td : TE} {apos cpos : Pos}
end
end Dl

namespace Dl
open PySem L2
section
variable {X : Cx}
end
end Dl

namespace Dl
open PySem PySem.Spec PyProof.Rows L2
section
variable {z TI TO i1 i2 a b : Addr}
end
section
variable {X : Cx}
end
section
variable {X : Cx}
end
end Dl

namespace Dl
open PySem L2
section
variable {X : Cx}
end
end Dl

namespace Dl
open PySem L2
section
variable {X : Cx}
end
end Dl

namespace Dl
open PySem L2
variable {ρ : DSt} {G : GH} {Q : DK}
def fldP (c f : Str) (d : D) (G : GH) (Q : DK) : Prop := ∃ a fs v, d = .ref a ∧ G a = some (.ins c fs) ∧ fs.lookup f = some v ∧ Q v G
theorem iFld {c f : Str} {te : DTE} (h : te ρ G fun d G1 => fldP c f d G1 Q) : dFld c f te ρ G Q := h
theorem fld_i {c f : Str} {a : Addr} {fs : List (Str × D)} {v : D} (hg : G a = some (.ins c fs)) (hl : fs.lookup f = some v) (h : Q v G) : fldP c f (.ref a) G Q := ⟨a, fs, v, rfl, hg, hl, h⟩
def gfldP (c f : Str) (y d : D) (ρ : DSt) (G : GH) (Q : DSt → GH → Prop) : Prop := ∃ a fs, d = .ref a ∧ G a = some (.ins c fs) ∧ fs.length < 1000 ∧ Q ρ (updG G a (.ins c (putFD f y fs)))
theorem iGFld {c f : Str} {to : DTE} {y : D} {Qg : DSt → GH → Prop} (h : to ρ G fun d G1 => gfldP c f y d ρ G1 Qg) : gFld c f to y ρ G Qg := h
theorem gfld_i {c f : Str} {a : Addr} {fs : List (Str × D)} {y : D} {Qg : DSt → GH → Prop} (hg : G a = some (.ins c fs)) (hl : fs.length < 1000) (h : Qg ρ (updG G a (.ins c (putFD f y fs)))) : gfldP c f y (.ref a) ρ G Qg := ⟨a, fs, rfl, hg, hl, h⟩
def methP (c m : Str) (sp : DSp) (ta : DTA) (ρ : DSt) (x : D) (G : GH) (Q : DK) : Prop := ∃ a fs, x = .ref a ∧ G a = some (.ins c fs) ∧ fs.lookup m = none ∧ ta ρ G fun ds G2 => sp (x :: ds) G2 Q noX
theorem iMeth {c m : Str} {sp : DSp} {to : DTE} {ta : DTA} (h : to ρ G fun x G1 => methP c m sp ta ρ x G1 Q) : dMeth c m sp to ta ρ G Q := h
theorem pmeth_i {c m : Str} {sp : DSp} {ta : DTA} {a : Addr} {fs : List (Str × D)} (hg : G a = some (.ins c fs)) (hl : fs.lookup m = none) (h : ta ρ G fun ds G2 => sp (.ref a :: ds) G2 Q noX) : methP c m sp ta ρ (.ref a) G Q := ⟨a, fs, rfl, hg, hl, h⟩
theorem iMake {c : Str} {sp : DSp} {ta : DTA} (h : ta ρ G fun ds G1 => ∀ a, G1 a = none → sp (.ref a :: ds) (updG G1 a (.ins c [])) (fun v G2 => v = .non ∧ Q (.ref a) G2) noX) : dMake c sp ta ρ G Q := h
end Dl

namespace Dl
open PySem PySem.Spec PyProof.Rows L2
section
variable {X : Cx} {o value : Expr} {c f : Str} {pos tpos : Pos} {to tv : DTE}
def dFAug (c f : Str) (to tv : DTE) : DTS := fun E ρ G => to ρ G fun d G1 => ∃ a fs i, d = .ref a ∧ G1 a = some (.ins c fs) ∧ fs.lookup f = some (.int i) ∧
  tv ρ G1 fun y G2 => ∃ j fs2, y = .int j ∧ G2 a = some (.ins c fs2) ∧ fs2.length < 1000 ∧ E.nx ρ (updG G2 a (.ins c (putFD f (.int (i + j)) fs2)))
theorem ds_fldaug (hc : Cls X.K (He.ga X.K c)) (hn : NoAttr X.K (He.ga X.K c) f) (ho : DE X o to) (hv : DE X value tv) : DS X (.AugAssign (.Attribute o f tpos) .Add value pos) (dFAug c f to tv) := by
  refine (ps_fldaug ho hv in_add).imp fun Dv σ H ⟨ρ, G, E, r, h, k1, k2, k3, k4⟩ => ?_
  refine ⟨ρ, G, _, r, h, fun x dxx H1 G1 e1 r1 v1 h1 => ?_⟩
  obtain ⟨a, fs, i, rfl, hg, hl, h1⟩ := h1
  cases rv_ref v1
  obtain ⟨dx, ws, w1, w2, w3⟩ := r1.gok a _ hg
  obtain ⟨y, ly, ry⟩ := (look_rep (f := f) w2 w3).1 _ hl
  cases rv_int ry
  refine ⟨a, _, dx, ws, .int i, rfl, w1, hc, hn, ly, ρ, G1, _, r1, h1, fun y dy H2 G2 e2 r2 v2 h2 => ?_⟩
  obtain ⟨j, fs2, rfl, hg2, hl2, hq⟩ := h2
  cases rv_int v2
  obtain ⟨dx2, ws2, u1, u2, u3⟩ := r2.gok a _ hg2
  obtain ⟨e3, r3⟩ := fld_put (f := f) (d := .int (i + j)) r2 hg2 int_rv u1 u2 u3
  exact ⟨i, j, rfl, rfl, dx2, ws2, u1, by rw [keys_len u2]; exact hl2, k1 _ _ _ _ ((e1.trans e2).trans e3) r3 hq⟩
end
structure MCalleeY (P : Program) (w : World) (K : PySem.W.Frag) (mg : Str → Option Value) (base : Heap) (k : Nat) (c m : Str) (n : Nat) (sp : DSp) : Prop where
  ex : ∃ f fd ps src, XFn P w K mg base k f fd ps sp ∧ Cls K (He.ga K c) ∧ Meth K (He.ga K c) m f ∧ (∀ (α : Type) (us : List α), us.length = n → pick src us [] [] = us) ∧
    ∀ (s : Shared) (us ws : List Value), K.In s.heap → us.length = n → ws.length = ([] : List Str).length → BindsTo s fd ⟨us, ([] : List Str).zip ws⟩ (ps.zip (pick src us [] ws))
theorem MCalleeY.up {P : Program} {w : World} {K : PySem.W.Frag} {mg : Str → Option Value} {base : Heap} {j k n : Nat} {c m : Str} {sp : DSp} (C : MCalleeY P w K mg base j c m n sp) (h : j ≤ k) : MCalleeY P w K mg base k c m n sp := by
  obtain ⟨f, fd, ps, src, F, a⟩ := C.ex
  exact ⟨f, fd, ps, src, F.up h, a⟩
def xMethY (c m : Str) (sp : DSp) (n : Nat) (to : DTE) (ta : DTA) : XTE := fun Z ρ G Q => to ρ G fun x G1 => ∃ a fs, x = .ref a ∧ G1 a = some (.ins c fs) ∧ fs.lookup m = none ∧ ta ρ G1 fun ds G2 => ds.length + 1 = n ∧ sp (x :: ds) G2 Q fun y G4 => Z y ρ G4
section
variable {X : Cx} {W : WX} {k n : Nat} {c m : Str} {sp : DSp} {pos apos : Pos} {e o : Expr} {es : List Expr} {to : DTE} {ta : DTA} {pl : Sem Bool}
theorem methY_on {f : Addr} {pins : List (Addr × Obj)} {σ : L2.St} {H : Hp} {s : Shared} {ρ : DSt} {G : GH} {q : DK} {R : Value → Shared → Prop} {call : Value → List Value → Sem Value} (hc : Cls X.K (He.ga X.K c)) (hm : Meth X.K (He.ga X.K c) m f) (ho : DE X o to) (I : Inv X pins σ H s) (r : DRel X.K σ H ρ G)
    (h : to ρ G q) (R2 : ∀ (a : Addr) (fs : List (Str × D)) (s1 : Shared) (H1 : Hp) (G1 : GH), Ext G H G1 H1 → DRel X.K σ H1 ρ G1 → Inv X pins σ H1 s1 → q (.ref a) G1 → wpAny (model X.prog X.w) X.A (call (.ref f) [.ref a]) R X.xe s1)
    (hq : ∀ d G1, q d G1 → ∃ a fs, d = .ref a ∧ G1 a = some (.ins c fs) ∧ fs.lookup m = none) :
    wpAny (model X.prog X.w) X.A (eval o X.env) (fun u s1 => wpAny (model X.prog X.w) X.A (getMethod u m pl) (fun p s2 => wpAny (model X.prog X.w) X.A (call p.1 p.2) R X.xe s2) X.xe s1) X.xe s := by
  refine thn (ho.run pins s σ H (fun v H1 => ∃ d G1, Ext G H G1 H1 ∧ DRel X.K σ H1 ρ G1 ∧ RepV X.K G1 H1 d v ∧ q d G1) I ⟨ρ, G, q, r, h, fun v d H1 G1 e1 r1 v1 h1 => ⟨d, G1, e1, r1, v1, h1⟩⟩) fun u s1 ⟨v, H1, I1, rv, d, G1, e1, r1, v1, h1⟩ => ?_
  obtain ⟨a, fs, rfl, hg, hl⟩ := hq d G1 h1
  cases rv_ref v1
  obtain rfl : u = Value.ref a := rv
  obtain ⟨dx, ws, w1, w2, w3⟩ := r1.gok a _ hg
  exact getmeth_ok I1 w1 hc hm ((look_rep (f := m) w2 w3).2 hl) (R2 a fs s1 H1 G1 e1 r1 I1 h1)
theorem xcmY (C : MCalleeY X.prog X.w X.K X.mg X.base k c m n sp) (tk' : Takes X W) (hr : Room k X.A) (hgd : X.A.guards = some []) (ho : DE X o to) (ha : DA X (e :: es) ta)
    (hst : starEach (e :: es) X.env = (false, eval e X.env) :: starEach es X.env := by rfl) (hpl : (backTo pos (starEach es X.env)).any (·.1) = false := by rfl)
    (ht : eval (.Call (.Attribute o m apos) (e :: es) [] pos) X.env = (do
      let ov ← eval o X.env
      standAt apos.atName
      let (f, first) ← holding [ov] (getMethod ov m pl)
      callWith pos f first (backTo pos (starEach (e :: es) X.env)) (backToKw pos (keywordEach [] X.env))) := by rfl) :
    XE1 X W (.Call (.Attribute o m apos) (e :: es) [] pos) (xMethY c m sp n to ta) := by
  obtain ⟨f, fd, ps, src, F, hc, hm, hp, hb⟩ := C.ex
  refine ⟨fun pins s σ H Q I ⟨ρ, G, q, Z, r, h, kk, z⟩ => ?_⟩
  refine PySem.W.methodCall_KW (pl := pl) (methY_on (call := fun g first => callWith pos g first (backTo pos (starEach (e :: es) X.env)) (backToKw pos (keywordEach [] X.env))) hc hm ho I r h ?_ fun d G1 ⟨a, fs, e1, e2, e3, _⟩ => ⟨a, fs, e1, e2, e3⟩) ht
  rintro a fs s1 H1 G1 e1 r1 I1 ⟨a', fs', ea, hg, hl, h1⟩
  cases ea
  refine PySem.W.callWith_K (first := [.ref a]) (h₀ := X.base) I1.ok.mod.kin hm.kp (thn (ha.run pos pins s1 σ H1 (fun ws H2 => toSp X.K sp (pick src (V.ref a :: ws) [] []) H2 Q (WE W σ) ∧ ws.length + 1 = n) I1 ⟨ρ, G1, _, r1, h1, fun ws ds H2 G2 e2 r2 v2 hx => ?_⟩) fun us s2 ⟨ws, H2, I2, rw, q2, l⟩ => ⟨I2.kIn, ?_⟩) hst hpl
  · obtain ⟨l1, h3⟩ := hx
    have lw : ws.length + 1 = n := by rw [v2.length]; exact l1
    refine ⟨?_, lw⟩
    rw [hp _ (V.ref a :: ws) (by rw [List.length_cons]; exact lw)]
    exact spx_at r2 (repL_cons (d := .ref a) (by unfold RepV; rfl) v2) h3 (fun v d H' G' e3 r3 v3 h3 => kk v d H' G' ((e1.trans e2).trans e3) r3 v3 h3) (z.ext (e1.trans e2))
  · exact xcg_run (ks := []) (zs := []) (ws := []) (vs := V.ref a :: ws) (dv := []) (its := []) (dvs := []) F tk' hr hgd .nil (fun _ _ => repL_nil) hb I2 (.cons rfl rw) .nil l rfl q2
theorem xcmY0 (C : MCalleeY X.prog X.w X.K X.mg X.base k c m n sp) (tk' : Takes X W) (hr : Room k X.A) (hgd : X.A.guards = some []) (ho : DE X o to)
    (ht : eval (.Call (.Attribute o m apos) [] [] pos) X.env = (do
      let ov ← eval o X.env
      standAt apos.atName
      let (f, first) ← holding [ov] (getMethod ov m pl)
      callWith pos f first (backTo pos (starEach [] X.env)) (backToKw pos (keywordEach [] X.env))) := by rfl) :
    XE1 X W (.Call (.Attribute o m apos) [] [] pos) (xMethY c m sp n to dNil) := by
  obtain ⟨f, fd, ps, src, F, hc, hm, hp, hb⟩ := C.ex
  refine ⟨fun pins s σ H Q I ⟨ρ, G, q, Z, r, h, kk, z⟩ => ?_⟩
  refine PySem.W.methodCall_KW (pl := pl) (methY_on (call := fun g first => callWith pos g first (backTo pos (starEach [] X.env)) (backToKw pos (keywordEach [] X.env))) hc hm ho I r h ?_ fun d G1 ⟨a, fs, e1, e2, e3, _⟩ => ⟨a, fs, e1, e2, e3⟩) ht
  rintro a fs s1 H1 G1 e1 r1 I1 ⟨a', fs', ea, hg, hl, l1, h3⟩
  cases ea
  refine PySem.W.callWith_K0 (first := [.ref a]) I1.kIn hm.kp ?_
  refine xcg_run (ks := []) (zs := []) (ws := []) (vs := [V.ref a]) (dv := []) (its := []) (dvs := []) F tk' hr hgd .nil (fun _ _ => repL_nil) hb I1 (.cons rfl .nil) .nil l1 rfl ?_
  rw [hp _ [V.ref a] l1]
  exact spx_at r1 (repL_one (d := .ref a) (by unfold RepV; rfl)) h3 (fun v d H' G' e3 r3 v3 h3 => kk v d H' G' (e1.trans e3) r3 v3 h3) (z.ext e1)
theorem mcalleeY_of {P : Program} {w : World} {K : PySem.W.Frag} {mg : Str → Option Value} {base : Heap} {qual : Str} {params : Arguments} {body : List Stmt} {scope : Scope} {f : Addr} {fd : FuncData} {ps : List Str} {src : List (Nat × Nat)} (hc : Cls K (He.ga K c)) (hm : Meth K (He.ga K c) m f) (F : FunD K m qual params body scope [] [] f fd) (D : XFn P w K mg base k f fd ps sp)
    (hp : ∀ (α : Type) (us : List α), us.length = n → pick src us [] [] = us)
    (b : ∀ (kV doc pm : Value) (an : Option Addr) (cdv ct : Value) (us : List Value), us.length = n → bindArgs (PySem.W.fnOf m qual params body scope .none kV doc pm an cdv ct) ⟨us, []⟩ = pure (ps.zip us)) : MCalleeY P w K mg base k c m n sp := by
  refine ⟨f, fd, ps, src, D, hc, hm, hp, ?_⟩
  intro s us ws _ h1 h2
  obtain rfl : ws = [] := by cases ws with | nil => rfl | cons => cases h2
  obtain ⟨oc, od, dV, kV, doc, pm, an, cdv, ct, osl, rfl, lk, hcd, hD, hK⟩ := F.ex
  rcases hD with ⟨_, rfl⟩ | ⟨e, _⟩
  · rw [hp _ us h1]
    exact .of_eq (b kV doc pm an cdv ct us h1)
  · exact absurd rfl e
end
theorem iFAug {c f : Str} {to tv : DTE} {E : DEnds} {ρ : DSt} {G : GH} (h : to ρ G fun d G1 => ∃ a fs i, d = .ref a ∧ G1 a = some (.ins c fs) ∧ fs.lookup f = some (.int i) ∧
  tv ρ G1 fun y G2 => ∃ j fs2, y = .int j ∧ G2 a = some (.ins c fs2) ∧ fs2.length < 1000 ∧ E.nx ρ (updG G2 a (.ins c (putFD f (.int (i + j)) fs2)))) : dFAug c f to tv E ρ G := h
theorem iMethY {c m : Str} {sp : DSp} {n : Nat} {to : DTE} {ta : DTA} {Z : DZ} {ρ : DSt} {G : GH} {Q : DK} (h : to ρ G fun x G1 => ∃ a fs, x = .ref a ∧ G1 a = some (.ins c fs) ∧ fs.lookup m = none ∧ ta ρ G1 fun ds G2 => ds.length + 1 = n ∧ sp (x :: ds) G2 Q fun y G4 => Z y ρ G4) : xMethY c m sp n to ta Z ρ G Q := h
end Dl

namespace Dl
open PySem PySem.Spec PyProof.Rows L2
def dChain (r r' : DR2) (ta tb tc : DTE) : DTE := fun ρ G Q => ta ρ G fun x G1 => tb ρ G1 fun y G2 => r x y G2 fun z G3 => match z with
  | .bl k => if k = true then tc ρ G3 fun w G4 => r' y w G4 Q else Q (.bl false) G3
  | _ => False
theorem rv_blB {K : PySem.W.Frag} {G : GH} {H : Hp} {b : Bool} {v : V} (r : RepV K G H (.bl b) v) : v = .bl b := by unfold RepV at r; exact r
section
variable {X : Cx} {W : WX}
theorem de_chain {op op' : CmpOp} {r r' : DR2} {a b c : Expr} {ta tb tc : DTE} {pos : Pos} (ho : DOp X (compareOp op) r) (ho' : DOp X (compareOp op') r') (ha : DE X a ta) (hb : DE X b tb) (hc : DE X c tc)
    (hm : lastMarks [op, op'] [b, c] = false := by with_unfolding_all rfl) : DE X (.Compare a [op, op'] [b, c] pos) (dChain r r' ta tb tc) := by
  refine (pe_chain ho ho' ha hb hc hm).imp fun σ H Q ⟨ρ, G, q, r0, h, k⟩ => ?_
  refine ⟨ρ, G, _, r0, h, fun x dx H1 G1 e1 r1 v1 h1 => ⟨ρ, G1, _, r1, h1, fun y dy H2 G2 e2 r2 v2 h2 => ?_⟩⟩
  refine ⟨G2, dx, dy, _, r2.gok, v1.ext e2, v2, h2, fun z dz H3 G3 e3 g3 v3 h3 => ?_⟩
  cases dz with
  | bl b =>
    cases rv_blB v3
    refine ⟨b, rfl, ?_⟩
    cases b with
    | true =>
      rw [if_pos rfl]
      have h3' : tc ρ G3 fun w G4 => r' dy w G4 q := h3
      exact ⟨ρ, G3, _, r2.ext e3 g3, h3', fun w dw H4 G4 e4 r4 v4 h4 => ⟨G4, dy, dw, q, r4.gok, v2.ext (e3.trans e4), v4, h4, fun v d H' G' e5 g5 v5 h5 => k v d H' G' ((((e1.trans e2).trans e3).trans e4).trans e5) (r4.ext e5 g5) v5 h5⟩⟩
    | false =>
      rw [if_neg (by decide)]
      exact k _ _ H3 G3 ((e1.trans e2).trans e3) (r2.ext e3 g3) (by unfold RepV; rfl) h3
  | _ => exact h3.elim
def xApp (to : DTE) (tx : XTE) : XTE := fun Z ρ G Q => to ρ G fun o G1 => (∃ a l, o = .ref a ∧ G1 a = some (.lst l)) ∧ tx Z ρ G1 fun y G2 => mAppend o [y] G2 Q
theorem xe_append {o x : Expr} {to : DTE} {tx : XTE} {apos cpos : Pos} (ho : DE X o to) (ha : XE1 X W x tx)
    (hbase : attributeBase o "append" X.env (eval o X.env) = eval o X.env := by rfl)
    (hfew : ((backTo cpos (starEach [x] X.env)).all (fun x => !x.1) && (backToKw cpos (keywordEach [] X.env)).all (fun x => x.1.isSome)
      && decide ([x].length + ([] : List Keyword).length + (if ([] : List Keyword).isEmpty then 0 else 1) < 30)) = true := by rfl)
    (hline : (apos.endLine == cpos.line) = true := by rfl) (hs : starEach [x] X.env = (false, eval x X.env) :: starEach [] X.env := by rfl) (hplain : (backTo cpos (starEach [] X.env)).any (·.1) = false := by rfl) :
    XE1 X W (.Call (.Attribute o "append" apos) [x] [] cpos) (xApp to tx) := by
  refine (pe_bm F.plainAttrs_list F.slot_list_append F.type_list_append m_append ho (pa_cons ha pa_nil hs) hbase hfew hline hs hplain).imp fun σ H Q ⟨ρ, G, q, Z, r0, h, k, z⟩ => ?_
  refine ⟨ρ, G, _, r0, h, fun x dx H1 G1 e1 r1 v1 h1 => ?_⟩
  obtain ⟨⟨a, l, rfl, hg⟩, h1⟩ := h1
  cases rv_ref v1
  obtain ⟨xs, w1, w2⟩ := r1.gok a _ hg
  refine ⟨.inl ⟨rfl, xs, SqL.of w1⟩, ?_⟩
  refine ⟨ρ, G1, _, Z, r1, h1, fun v d H2 G2 e2 r2 v2 h2 => ?_, z.ext e1⟩
  exact ⟨G2, .ref a, [d], q, r2.gok, ref_rv, repL_one v2, h2, fun v d H' G' e3 g3 v3 h3 => k v d H' G' ((e1.trans e2).trans e3) (r2.ext e3 g3) v3 h3⟩
end
end Dl

namespace Dl
open PySem PySem.Spec PyProof.Rows L2
theorem isi_tabB : ∀ a ∈ isiTypes, kitB a "bytes" = some (subT a "bytes") := by decide +kernel
section
variable {X : Cx}
theorem de_isiB {e : Expr} {te : DTE} {Tn : Str} {p pT pos : Pos} (hg : Gl X "isinstance") (hm : X.mg "isinstance" = none) (hgT : Gl X Tn) (hmT : X.mg Tn = none) (hbT : bootBuiltins Tn = some (.type "bytes")) (he : DE X e te)
    (hs : starEach [e, .Name Tn pT] X.env = (false, eval e X.env) :: starEach [.Name Tn pT] X.env := by rfl) (hs2 : starEach [.Name Tn pT] X.env = (false, eval (.Name Tn pT) X.env) :: starEach [] X.env := by rfl) (hpl : (backTo pos (starEach [.Name Tn pT] X.env)).any (·.1) = false := by rfl)
    (hn : Tn ≠ "__name__" := by decide) (hd : (Tn == ("__debug__" : Str)) = false := by decide) :
    DE X (.Call (.Name "isinstance" p) [e, .Name Tn pT] [] pos) (dIsi "bytes" te) := by
  refine (pe_callB call_isi hg hm PyProof.Rows.boot_isinstance (pa_cons he (pa_cons (pe_bltn (v := .ty "bytes") hgT hmT hbT rfl hn hd) pa_nil hs2) hs) (he := hs) (hpl := hpl)).imp fun σ H Q ⟨ρ, G, q, r, h, k⟩ => ?_
  refine ⟨ρ, G, _, r, h, fun v d H1 G1 e1 r1 v1 h1 => ?_⟩
  cases e2 : tyD G1 d with
  | none => rw [e2] at h1; exact h1.elim
  | some t =>
    rw [e2] at h1
    obtain ⟨ty, tm⟩ := ty_of r1.gok v1 e2
    exact ⟨v, .ty "bytes", .type t, .type "bytes", subT t "bytes", rfl, .ty "bytes", ty, kit_ty (isi_tabB t tm), k _ _ H1 G1 e1 r1 bl_rv h1⟩
end
end Dl

namespace Dl
open PySem L2 PySem.SeqAt
structure EntN (w : World) (h : Heap) (n : NestedKey) (e : DictEntry) : Prop where
  key : NestedIs h n e.key
  hash : e.hash = n.hash w
  deep : n.depth ≤ 8
theorem paired_get {α β : Type} {F : α → β → Prop} : ∀ {l : List α} {m : List β} {i : Nat} {y : β}, Paired F l m → m[i]? = some y → ∃ x, l[i]? = some x ∧ F x y
  | _, _, _, _, .nil, e => by simp at e
  | _, _, 0, _, .cons r _, e => by simp at e; subst e; exact ⟨_, rfl, r⟩
  | _, _, i + 1, y, .cons _ t, e => by
    obtain ⟨x, h1, h2⟩ := paired_get (i := i) (y := y) t (by simpa using e)
    exact ⟨x, by simpa using h1, h2⟩
theorem paired_get' {α β : Type} {F : α → β → Prop} : ∀ {l : List α} {m : List β} {i : Nat} {x : α}, Paired F l m → l[i]? = some x → ∃ y, m[i]? = some y ∧ F x y
  | _, _, _, _, .nil, e => by simp at e
  | _, _, 0, _, .cons r _, e => by simp at e; subst e; exact ⟨_, rfl, r⟩
  | _, _, i + 1, x, .cons _ t, e => by
    obtain ⟨y, h1, h2⟩ := paired_get' (i := i) (x := x) t (by simpa using e)
    exact ⟨y, by simpa using h1, h2⟩
theorem paired_mem {α β : Type} {F : α → β → Prop} {l : List α} {m : List β} {y : β} (p : Paired F l m) (hy : y ∈ m) : ∃ x, x ∈ l ∧ F x y := by
  obtain ⟨i, hi⟩ := List.mem_iff_getElem?.mp hy
  obtain ⟨x, h1, h2⟩ := paired_get p hi
  exact ⟨x, List.mem_of_getElem? h1, h2⟩
theorem nodup_at {α : Type} {l : List α} (hn : l.Nodup) {i j : Nat} {x : α} (hi : l[i]? = some x) (hj : l[j]? = some x) : i = j :=
  (List.getElem?_inj (List.getElem?_eq_some_iff.mp hi).1 hn).mp (hi.trans hj.symm)
section
variable {prog : Program} {w : World} {A : Around} {E : Value → Shared → Prop} {s : Shared} {d : Addr} {o : Obj} {es : Array DictEntry} {ep : Nat} {ns : List NestedKey} {k : NestedKey} {key : Value}
theorem same_n {n m : NestedKey} {u v : Value} {Q : Bool → Shared → Prop} (hu : A.units + 9 < cLine) (h1 : NestedIs s.heap n u) (h2 : NestedIs s.heap m v) (hd : m.depth ≤ 8) (h : Q (decide (n = m)) s) : wpAny (model prog w) A (eqBool u v) Q E s :=
  eqAt_key n m A s u v h1 h2 (by omega) _ _ _ _ (by rw [← NestedKey.decide_eq]; exact h)
theorem tells_n {stored : List Value} {Q : Bool → Shared → Prop} (hk : NestedIs s.heap k key) (hd : k.depth ≤ 8) (hs : ∀ v ∈ stored, ∃ n, NestedIs s.heap n v ∧ n.depth ≤ 8) (h : Q false s) : wpAny (model prog w) A (tableMayTell key stored) Q E s := by
  unfold tableMayTell
  split
  · exact wpAny_pure h
  refine wpAny_bind (quiet_key k key 8 s hk hd A E _ ?_)
  rw [if_neg (by decide)]
  refine wpAny_bind ?_
  refine wpAny_forIn_list _ (fun l r s' => s' = s ∧ r = (none, ()) ∧ ∀ v ∈ l, v ∈ stored) _ ?_ ?_ _ _ ⟨rfl, rfl, fun _ q => q⟩
  · rintro x l r s' ⟨rfl, rfl, q⟩
    obtain ⟨n, n1, n2⟩ := hs x (q x (List.mem_cons_self ..))
    refine wpAny_bind (quiet_key n x 8 s' n1 n2 A E _ ?_)
    rw [if_neg (by decide)]
    exact wpAny_pure ⟨rfl, rfl, fun v hv => q v (List.mem_cons_of_mem _ hv)⟩
  · rintro r s' ⟨rfl, rfl, _⟩
    exact wpAny_pure h
def ToSee (es : Array DictEntry) (h : Int) (ns : List NestedKey) (k : NestedKey) (l : List Nat) : Prop := l.Nodup ∧ (∀ i ∈ l, i < es.size) ∧ ∀ j, ns[j]? = some k → j ∈ l
theorem entry_n (hp : Paired (EntN w s.heap) ns es.toList) {i : Nat} (hi : i < es.size) : ∃ e n, es[i]? = some e ∧ ns[i]? = some n ∧ EntN w s.heap n e := by
  have h1 : es.toList[i]? = some es[i] := by simp [hi]
  obtain ⟨n, h2, h3⟩ := paired_get hp h1
  exact ⟨es[i], n, by simp [hi], h2, h3⟩
theorem key_lt (hp : Paired (EntN w s.heap) ns es.toList) {j : Nat} {n : NestedKey} (hj : ns[j]? = some n) : ∃ e, es[j]? = some e ∧ EntN w s.heap n e := by
  obtain ⟨e, h1, h2⟩ := paired_get' hp hj
  exact ⟨e, by simpa using h1, h2⟩
theorem places_n (hp : Paired (EntN w s.heap) ns es.toList) : ToSee es (k.hash w) ns k (placesWithHash es.size (fun i => es[i]?.map (·.hash)) (k.hash w)) := by
  refine ⟨?_, fun i hi => ?_, fun j hj => ?_⟩
  · rw [placesWithHash]; exact List.Pairwise.filter _ List.nodup_range
  · rw [placesWithHash] at hi; exact List.mem_range.mp (List.mem_filter.mp hi).1
  · obtain ⟨e, h1, h2⟩ := key_lt hp hj
    rw [placesWithHash]
    refine List.mem_filter.mpr ⟨List.mem_range.mpr (Array.getElem?_eq_some_iff.mp h1).1, ?_⟩
    rw [h1]
    simp [h2.hash]
theorem ToSee.next {h : Int} {i : Nat} {l : List Nat} {n : NestedKey} (t : ToSee es h ns k (i :: l)) (hi : ns[i]? = some n) (ne : n ≠ k) : ToSee es h ns k l := by
  obtain ⟨t1, t2, t3⟩ := t
  refine ⟨(List.nodup_cons.mp t1).2, fun j hj => t2 j (List.mem_cons_of_mem _ hj), fun j hj => ?_⟩
  rcases List.mem_cons.mp (t3 j hj) with e | e
  · subst e; rw [hi] at hj; exact absurd (Option.some.inj hj) ne
  · exact e
theorem ToSee.nil {h : Int} (t : ToSee es h ns k []) : k ∉ ns := fun hm => by
  obtain ⟨j, hj⟩ := List.mem_iff_getElem?.mp hm
  exact absurd (t.2.2 j hj) (by simp)
theorem ep_same {α : Type} (ep : Nat) (a b : α) : (if (ep != ep) = true then a else b) = b := if_neg (by simp)
theorem plain_n {Q : Option Nat → Shared → Prop} (hu : A.units + 9 < cLine) (hk : NestedIs s.heap k key) (hd8 : k.depth ≤ 8) (ho : s.heap.get? d = some o) (hd : o.data = .dict es ep) (hp : Paired (EntN w s.heap) ns es.toList)
    (h0 : k ∉ ns → Q none s) (h1 : ∀ j, ns[j]? = some k → Q (some j) s) {l : List Nat} (t : ToSee es (k.hash w) ns k l) : wpAny (model prog w) A (dictWalkPlain d key (k.hash w) es l) Q E s := by
  unfold dictWalkPlain
  refine wpAny_bind ?_
  refine wpAny_forIn_list _ (fun l r s' => s' = s ∧ r = (none, ()) ∧ ToSee es (k.hash w) ns k l) _ ?_ ?_ _ _ ⟨rfl, rfl, t⟩
  · rintro i l r s' ⟨rfl, rfl, t⟩
    obtain ⟨e, n, e1, e2, e3⟩ := entry_n hp (t.2.1 i (List.mem_cons_self ..))
    rw [e1]
    dsimp only
    by_cases hh : (e.hash == k.hash w) = true
    · rw [if_pos hh]
      refine wpAny_bind (wpAny_dictEpoch ho hd (wpAny_bind (same_n hu e3.key hk hd8 (wpAny_bind (wpAny_dictEpoch ho hd ?_)))))
      rw [ep_same]
      by_cases hnk : n = k
      · subst hnk
        rw [decide_eq_true rfl]
        exact wpAny_bind (wpAny_rule (wpAny_pure (wpAny_pure (h1 i e2))))
      · rw [decide_eq_false hnk]
        exact wpAny_bind (wpAny_rule (wpAny_pure ⟨rfl, rfl, t.next e2 hnk⟩))
    · rw [if_neg hh]
      refine wpAny_pure ⟨rfl, rfl, t.next e2 fun q => ?_⟩
      rw [e3.hash, q] at hh
      simp at hh
  · rintro r s' ⟨rfl, rfl, t⟩
    exact wpAny_pure (h0 t.nil)
theorem text_n {x : Str} {tk : Tok} {Q : Option Nat → Shared → Prop} (hu : A.units + 9 < cLine) (hk : NestedIs s.heap k (.str x tk)) (ho : s.heap.get? d = some o) (hd : o.data = .dict es ep) (hp : Paired (EntN w s.heap) ns es.toList) (hall : (es.all fun e => isExactStrKey e.key) = true)
    (h0 : k ∉ ns → Q none s) (h1 : ∀ j, ns[j]? = some k → Q (some j) s) : wpAny (model prog w) A (foundByValue d (.str x tk) es x) Q E s := by
  obtain rfl : k = .text x := by cases hk; rfl
  have hit : ∀ {e : DictEntry} {n : NestedKey}, EntN w s.heap n e → e ∈ es → (e.key.isStr x = true ↔ n = .text x) := fun {e n} q hm => by
    have a := Array.all_eq_true'.mp hall e hm
    obtain ⟨hh, ek, ev⟩ := e
    have q1 := q.key
    dsimp only at a q1 ⊢
    cases q1 with
    | text y t => simp [Value.isStr]
    | none => simp [isExactStrKey] at a
    | bool _ => simp [isExactStrKey] at a
    | int _ _ => simp [isExactStrKey] at a
    | tup _ _ _ _ => simp [isExactStrKey] at a
  unfold foundByValue
  cases hf : es.findIdx? (·.key.isStr x) with
  | none =>
    refine wpAny_pure (h0 fun hm => ?_)
    obtain ⟨j, hj⟩ := List.mem_iff_getElem?.mp hm
    obtain ⟨e, e1, e2⟩ := key_lt hp hj
    have := Array.findIdx?_eq_none_iff.mp hf e (Array.mem_of_getElem? e1)
    rw [(hit e2 (Array.mem_of_getElem? e1)).mpr rfl] at this
    cases this
  | some i =>
    obtain ⟨hlt, hi, _⟩ := Array.findIdx?_eq_some_iff_getElem.mp hf
    obtain ⟨e, n, e1, e2, e3⟩ := entry_n (w := w) (s := s) hp hlt
    have e4 : es[i] = e := by rw [Array.getElem?_eq_getElem hlt] at e1; exact Option.some.inj e1
    have hn := (hit e3 (Array.mem_of_getElem? e1)).mp (by rw [← e4]; exact hi)
    subst hn
    dsimp only
    rw [e1]
    dsimp only
    refine wpAny_bind (wpAny_dictEpoch ho hd (wpAny_bind (same_n hu e3.key hk (by simp [NestedKey.depth]) (wpAny_bind (wpAny_dictEpoch ho hd ?_)))))
    rw [ep_same, decide_eq_true rfl]
    exact wpAny_bind (wpAny_rule (wpAny_pure (h1 i e2)))
theorem find_n {Q : Option Nat → Shared → Prop} (hu : A.units + 9 < cLine) (hk : NestedIs s.heap k key) (hd8 : k.depth ≤ 8) (ho : s.heap.get? d = some o) (hd : o.data = .dict es ep) (hp : Paired (EntN w s.heap) ns es.toList) (hn : ns.Nodup)
    (h0 : k ∉ ns → Q none s) (h1 : ∀ j, ns[j]? = some k → Q (some j) s) : wpAny (model prog w) A (dictFind d key (k.hash w)) Q E s := by
  have hpl := places_n (k := k) hp
  have hst : ∀ v ∈ (placesWithHash es.size (fun i => es[i]?.map (·.hash)) (k.hash w)).filterMap (fun i => es[i]?.map (·.key)), ∃ n, NestedIs s.heap n v ∧ n.depth ≤ 8 := fun v hv => by
    obtain ⟨i, hi, e⟩ := List.mem_filterMap.mp hv
    obtain ⟨e', n, e1, e2, e3⟩ := entry_n (w := w) (s := s) hp (hpl.2.1 i hi)
    rw [e1] at e
    cases e
    exact ⟨n, e3.key, e3.deep⟩
  have hany : ∀ a : Addr, key = .ref a → ¬ (es.any fun e => e.key == key && e.hash != k.hash w) = true := fun a ek hc => by
    obtain ⟨e, he, h2⟩ := Array.any_eq_true'.mp hc
    obtain ⟨n, _, q⟩ := paired_mem hp (Array.mem_toList_iff.mpr he)
    rw [Bool.and_eq_true, beq_iff_eq, bne_iff_ne] at h2
    have q1 := q.key
    rw [h2.1] at q1
    rw [NestedIs.inj _ _ _ q1 hk] at q
    exact h2.2 q.hash
  unfold dictFind
  refine wpAny_holding ?_
  refine wpAny_bind (wpAny_dictEntries ho hd ?_)
  dsimp only
  generalize placesWithHash es.size (fun i => es[i]?.map (·.hash)) (k.hash w) = places at hpl hst ⊢
  split
  · rename_i x t
    by_cases hall : (es.all fun e => isExactStrKey e.key) = true
    · rw [if_pos hall]
      exact text_n hu hk ho hd hp hall h0 h1
    rw [if_neg hall]
    by_cases hc : ((Value.str x t :: places.filterMap fun i => es[i]?.map (·.key)).all carriedByValue) = true
    · rw [if_pos hc]
      exact plain_n hu hk hd8 ho hd hp h0 h1 hpl
    rw [if_neg hc]
    dsimp only
    by_cases hone : ((places.filterMap fun i => es[i]?.map (·.key)) == [(Value.str x t)]) = true
    all_goals (
      first | rw [if_pos hone] | rw [if_neg hone]
      first | refine wpAny_bind (wpAny_pure ?_) | refine wpAny_bind (tells_n hk hd8 hst ?_)
      rw [if_neg (by simp)]
      refine wpAny_bind ?_
      refine wpAny_forIn_list _ (fun l r s' => s' = s ∧ r.1 = none ∧ l.Nodup ∧ (∀ i ∈ l, i < es.size) ∧ ((r.2 = none ∧ ∀ j, ns[j]? = some k → j ∈ l) ∨ ∃ j, r.2 = some j ∧ ns[j]? = some k ∧ j ∉ l)) _ ?_ ?_ _ _ ⟨rfl, rfl, hpl.1, hpl.2.1, .inl ⟨rfl, hpl.2.2⟩⟩
      · rintro i l ⟨r1, r2⟩ s' ⟨rfl, rfl, nd, hl, hh⟩
        dsimp only at hh
        obtain ⟨e, n, e1, e2, e3⟩ := entry_n hp (hl i (List.mem_cons_self ..))
        have nd2 := List.nodup_cons.mp nd
        have nx : n ≠ k → (r2 = none ∧ ∀ j, ns[j]? = some k → j ∈ l) ∨ ∃ j, r2 = some j ∧ ns[j]? = some k ∧ j ∉ l := fun ne => by
          rcases hh with ⟨q1, q2⟩ | ⟨j, q1, q2, q3⟩
          · refine .inl ⟨q1, fun j hj => ?_⟩
            rcases List.mem_cons.mp (q2 j hj) with z | z
            · subst z; rw [e2] at hj; exact absurd (Option.some.inj hj) ne
            · exact z
          · exact .inr ⟨j, q1, q2, fun z => q3 (List.mem_cons_of_mem _ z)⟩
        rw [e1]
        dsimp only
        by_cases hq : (e.hash == k.hash w) = true
        · rw [if_pos hq]
          refine wpAny_bind (wpAny_dictEpoch ho hd (wpAny_bind (same_n hu e3.key hk hd8 (wpAny_bind (wpAny_dictEpoch ho hd ?_)))))
          rw [ep_same]
          by_cases hnk : n = k
          · subst hnk
            rw [decide_eq_true rfl, if_pos rfl]
            rcases hh with ⟨q1, q2⟩ | ⟨j, q1, q2, q3⟩
            · subst q1
              rw [if_neg (by simp)]
              refine wpAny_bind (wpAny_rule ?_)
              split
              · exact wpAny_pure (wpAny_pure (h1 i e2))
              · exact wpAny_pure ⟨rfl, rfl, nd2.2, fun j hj => hl j (List.mem_cons_of_mem _ hj), .inr ⟨i, rfl, e2, nd2.1⟩⟩
            · exact absurd (nodup_at hn q2 e2 ▸ List.mem_cons_self ..) q3
          · rw [decide_eq_false hnk, if_neg (by decide)]
            refine wpAny_bind (wpAny_rule ?_)
            first
              | exact wpAny_pure ⟨rfl, rfl, nd2.2, fun j hj => hl j (List.mem_cons_of_mem _ hj), nx hnk⟩
              | (rw [if_neg (by simp)]; exact wpAny_pure ⟨rfl, rfl, nd2.2, fun j hj => hl j (List.mem_cons_of_mem _ hj), nx hnk⟩)
        · rw [if_neg hq]
          refine wpAny_pure ⟨rfl, rfl, nd2.2, fun j hj => hl j (List.mem_cons_of_mem _ hj), nx fun z => ?_⟩
          rw [e3.hash, z] at hq
          simp at hq
      · rintro ⟨r1, r2⟩ s' ⟨rfl, rfl, nd, hl, hh⟩
        dsimp only at hh ⊢
        rcases hh with ⟨q1, q2⟩ | ⟨j, q1, q2, q3⟩
        · subst q1
          refine wpAny_pure (h0 fun hm => ?_)
          obtain ⟨j, hj⟩ := List.mem_iff_getElem?.mp hm
          exact absurd (q2 j hj) (by simp)
        · subst q1
          exact wpAny_pure (h1 j q2))
  · by_cases hc : ((key :: places.filterMap fun i => es[i]?.map (·.key)).all carriedByValue) = true
    · rw [if_pos hc]
      exact plain_n hu hk hd8 ho hd hp h0 h1 hpl
    rw [if_neg hc]
    split
    · rename_i a _
      rw [if_neg (hany a rfl)]
      by_cases hone : ((places.filterMap fun i => es[i]?.map (·.key)) == [(Value.ref a)]) = true
      all_goals (
        first | rw [if_pos hone] | rw [if_neg hone]
        first | refine wpAny_bind (wpAny_pure ?_) | refine wpAny_bind (tells_n hk hd8 hst ?_)
        rw [if_neg (by simp)]
        refine wpAny_bind ?_
        refine wpAny_forIn_list _ (fun l r s' => s' = s ∧ r.1 = none ∧ l.Nodup ∧ (∀ i ∈ l, i < es.size) ∧ ((r.2 = none ∧ ∀ j, ns[j]? = some k → j ∈ l) ∨ ∃ j, r.2 = some j ∧ ns[j]? = some k ∧ j ∉ l)) _ ?_ ?_ _ _ ⟨rfl, rfl, hpl.1, hpl.2.1, .inl ⟨rfl, hpl.2.2⟩⟩
        · rintro i l ⟨r1, r2⟩ s' ⟨rfl, rfl, nd, hl, hh⟩
          dsimp only at hh
          obtain ⟨e, n, e1, e2, e3⟩ := entry_n hp (hl i (List.mem_cons_self ..))
          have nd2 := List.nodup_cons.mp nd
          have nx : n ≠ k → (r2 = none ∧ ∀ j, ns[j]? = some k → j ∈ l) ∨ ∃ j, r2 = some j ∧ ns[j]? = some k ∧ j ∉ l := fun ne => by
            rcases hh with ⟨q1, q2⟩ | ⟨j, q1, q2, q3⟩
            · refine .inl ⟨q1, fun j hj => ?_⟩
              rcases List.mem_cons.mp (q2 j hj) with z | z
              · subst z; rw [e2] at hj; exact absurd (Option.some.inj hj) ne
              · exact z
            · exact .inr ⟨j, q1, q2, fun z => q3 (List.mem_cons_of_mem _ z)⟩
          rw [e1]
          dsimp only
          by_cases hq : (e.hash == k.hash w) = true
          · rw [if_pos hq]
            refine wpAny_bind (wpAny_dictEpoch ho hd (wpAny_bind (same_n hu e3.key hk hd8 (wpAny_bind (wpAny_dictEpoch ho hd ?_)))))
            rw [ep_same]
            by_cases hnk : n = k
            · subst hnk
              rw [decide_eq_true rfl, if_pos rfl]
              rcases hh with ⟨q1, q2⟩ | ⟨j, q1, q2, q3⟩
              · subst q1
                rw [if_neg (by simp)]
                refine wpAny_bind (wpAny_rule ?_)
                split
                · exact wpAny_pure (wpAny_pure (h1 i e2))
                · exact wpAny_pure ⟨rfl, rfl, nd2.2, fun j hj => hl j (List.mem_cons_of_mem _ hj), .inr ⟨i, rfl, e2, nd2.1⟩⟩
              · exact absurd (nodup_at hn q2 e2 ▸ List.mem_cons_self ..) q3
            · rw [decide_eq_false hnk, if_neg (by decide)]
              refine wpAny_bind (wpAny_rule ?_)
              first
                | exact wpAny_pure ⟨rfl, rfl, nd2.2, fun j hj => hl j (List.mem_cons_of_mem _ hj), nx hnk⟩
                | (rw [if_neg (by simp)]; exact wpAny_pure ⟨rfl, rfl, nd2.2, fun j hj => hl j (List.mem_cons_of_mem _ hj), nx hnk⟩)
          · rw [if_neg hq]
            refine wpAny_pure ⟨rfl, rfl, nd2.2, fun j hj => hl j (List.mem_cons_of_mem _ hj), nx fun z => ?_⟩
            rw [e3.hash, z] at hq
            simp at hq
        · rintro ⟨r1, r2⟩ s' ⟨rfl, rfl, nd, hl, hh⟩
          dsimp only at hh ⊢
          rcases hh with ⟨q1, q2⟩ | ⟨j, q1, q2, q3⟩
          · subst q1
            refine wpAny_pure (h0 fun hm => ?_)
            obtain ⟨j, hj⟩ := List.mem_iff_getElem?.mp hm
            exact absurd (q2 j hj) (by simp)
          · subst q1
            exact wpAny_pure (h1 j q2))
    · by_cases hone : ((places.filterMap fun i => es[i]?.map (·.key)) == [key]) = true
      all_goals (
        first | rw [if_pos hone] | rw [if_neg hone]
        first | refine wpAny_bind (wpAny_pure ?_) | refine wpAny_bind (tells_n hk hd8 hst ?_)
        rw [if_neg (by simp)]
        refine wpAny_bind ?_
        refine wpAny_forIn_list _ (fun l r s' => s' = s ∧ r.1 = none ∧ l.Nodup ∧ (∀ i ∈ l, i < es.size) ∧ ((r.2 = none ∧ ∀ j, ns[j]? = some k → j ∈ l) ∨ ∃ j, r.2 = some j ∧ ns[j]? = some k ∧ j ∉ l)) _ ?_ ?_ _ _ ⟨rfl, rfl, hpl.1, hpl.2.1, .inl ⟨rfl, hpl.2.2⟩⟩
        · rintro i l ⟨r1, r2⟩ s' ⟨rfl, rfl, nd, hl, hh⟩
          dsimp only at hh
          obtain ⟨e, n, e1, e2, e3⟩ := entry_n hp (hl i (List.mem_cons_self ..))
          have nd2 := List.nodup_cons.mp nd
          have nx : n ≠ k → (r2 = none ∧ ∀ j, ns[j]? = some k → j ∈ l) ∨ ∃ j, r2 = some j ∧ ns[j]? = some k ∧ j ∉ l := fun ne => by
            rcases hh with ⟨q1, q2⟩ | ⟨j, q1, q2, q3⟩
            · refine .inl ⟨q1, fun j hj => ?_⟩
              rcases List.mem_cons.mp (q2 j hj) with z | z
              · subst z; rw [e2] at hj; exact absurd (Option.some.inj hj) ne
              · exact z
            · exact .inr ⟨j, q1, q2, fun z => q3 (List.mem_cons_of_mem _ z)⟩
          rw [e1]
          dsimp only
          by_cases hq : (e.hash == k.hash w) = true
          · rw [if_pos hq]
            refine wpAny_bind (wpAny_dictEpoch ho hd (wpAny_bind (same_n hu e3.key hk hd8 (wpAny_bind (wpAny_dictEpoch ho hd ?_)))))
            rw [ep_same]
            by_cases hnk : n = k
            · subst hnk
              rw [decide_eq_true rfl, if_pos rfl]
              rcases hh with ⟨q1, q2⟩ | ⟨j, q1, q2, q3⟩
              · subst q1
                rw [if_neg (by simp)]
                refine wpAny_bind (wpAny_rule ?_)
                split
                · exact wpAny_pure (wpAny_pure (h1 i e2))
                · exact wpAny_pure ⟨rfl, rfl, nd2.2, fun j hj => hl j (List.mem_cons_of_mem _ hj), .inr ⟨i, rfl, e2, nd2.1⟩⟩
              · exact absurd (nodup_at hn q2 e2 ▸ List.mem_cons_self ..) q3
            · rw [decide_eq_false hnk, if_neg (by decide)]
              refine wpAny_bind (wpAny_rule ?_)
              first
                | exact wpAny_pure ⟨rfl, rfl, nd2.2, fun j hj => hl j (List.mem_cons_of_mem _ hj), nx hnk⟩
                | (rw [if_neg (by simp)]; exact wpAny_pure ⟨rfl, rfl, nd2.2, fun j hj => hl j (List.mem_cons_of_mem _ hj), nx hnk⟩)
          · rw [if_neg hq]
            refine wpAny_pure ⟨rfl, rfl, nd2.2, fun j hj => hl j (List.mem_cons_of_mem _ hj), nx fun z => ?_⟩
            rw [e3.hash, z] at hq
            simp at hq
        · rintro ⟨r1, r2⟩ s' ⟨rfl, rfl, nd, hl, hh⟩
          dsimp only at hh ⊢
          rcases hh with ⟨q1, q2⟩ | ⟨j, q1, q2, q3⟩
          · subst q1
            refine wpAny_pure (h0 fun hm => ?_)
            obtain ⟨j, hj⟩ := List.mem_iff_getElem?.mp hm
            exact absurd (q2 j hj) (by simp)
          · subst q1
            exact wpAny_pure (h1 j q2))
end
end Dl

namespace Dl
open PySem L2 PySem.SeqAt
mutual
theorem is_reads {h : Heap} : ∀ (n : NestedKey) (v : Value) (as : List Addr), Reads h v n.data as → NestedIs h n v
  | .none, _, _, r => by cases r; exact .none
  | .num i, _, _, r => by cases r; exact .int _ _
  | .text x, _, _, r => by cases r; exact .text _ _
  | .tup ks, _, _, r => by
    cases r with
    | tuple h1 h2 h3 h4 => exact .tup h1 h2 h3 (is_readsAll ks _ _ h4)
theorem is_readsAll {h : Heap} : ∀ (ks : List NestedKey) (vs : List Value) (as : List Addr), ReadsAll h vs (NestedKey.datas ks) as → NestedAll h ks vs
  | [], _, _, r => by cases r; exact .nil
  | k :: ks, _, _, r => by
    cases r with
    | cons h1 h2 => exact .cons (is_reads k _ _ h1) (is_readsAll ks _ _ h2)
end
def DnyO (a : Addr) (q : List (Int × V × V)) : HO := .ext fun h => q.length ≤ sizeLine ∧ (a == sysModules) = false ∧ ∃ o es ep, h.get? a = some o ∧ o.ExactDict ∧ o.data = .dict es ep ∧ Paired (fun (x : Int × V × V) (e : DictEntry) => e.hash = x.1 ∧ RelV x.2.1 e.key ∧ RelV x.2.2 e.val) q es.toList
def KeysN (K : PySem.W.Frag) (w : World) (H : Hp) (ns : List NestedKey) (q : List (Int × V × V)) : Prop := ns.Nodup ∧ Paired (fun (n : NestedKey) (x : Int × V × V) => x.1 = n.hash w ∧ Dp K H x.2.1 n.data ∧ n.depth ≤ 8) ns q
def putN (w : World) (ns : List NestedKey) (q : List (Int × V × V)) (k : NestedKey) (y z : V) : List (Int × V × V) :=
  if k ∈ ns then q.modify (ns.idxOf k) (fun x => (x.1, x.2.1, z)) else q ++ [(k.hash w, y, z)]
theorem len_putN (w : World) (ns : List NestedKey) (q : List (Int × V × V)) (k : NestedKey) (y z : V) : (putN w ns q k y z).length ≤ q.length + 1 := by
  unfold putN
  split
  · rw [List.length_modify]; omega
  · simp
theorem paired_comp {α β γ : Type} {F : α → β → Prop} {R : β → γ → Prop} : ∀ {l : List α} {m : List β} {n : List γ}, Paired F l m → Paired R m n → Paired (fun x z => ∃ y, F x y ∧ R y z) l n
  | _, _, _, .nil, .nil => .nil
  | _, _, _, .cons a s, .cons b t => .cons ⟨_, a, b⟩ (paired_comp s t)
theorem paired_app {α β : Type} {F : α → β → Prop} : ∀ {l l' : List α} {m m' : List β}, Paired F l m → Paired F l' m' → Paired F (l ++ l') (m ++ m')
  | _, _, _, _, .nil, s => s
  | _, _, _, _, .cons r t, s => .cons r (paired_app t s)
theorem paired_modify {α β : Type} {F : α → β → Prop} {f : α → α} {g : β → β} (hfg : ∀ x y, F x y → F (f x) (g y)) : ∀ {l : List α} {m : List β} (i : Nat), Paired F l m → Paired F (l.modify i f) (m.modify i g)
  | _, _, _, .nil => by simpa using Paired.nil
  | _, _, 0, .cons r t => by simpa using Paired.cons (hfg _ _ r) t
  | _, _, i + 1, .cons r t => by simpa using Paired.cons r (paired_modify hfg i t)
theorem at_idxOf {α : Type} [DecidableEq α] {l : List α} {x : α} (h : x ∈ l) : l[l.idxOf x]? = some x := by
  rw [List.getElem?_eq_getElem (List.idxOf_lt_length_of_mem h), List.getElem_idxOf]
theorem modify_list {α : Type} (es : Array α) (i : Nat) (f : α → α) : (es.modify i f).toList = es.toList.modify i f := by simp
section
variable {X : Cx} {pins : List (Addr × Obj)} {σ : St} {H : Hp} {s : Shared}
theorem ents_n (I : Inv X pins σ H s) {ns : List NestedKey} {q : List (Int × V × V)} {es : Array DictEntry} (hk : KeysN X.K X.w H ns q) (hp : Paired (fun (x : Int × V × V) (e : DictEntry) => e.hash = x.1 ∧ RelV x.2.1 e.key ∧ RelV x.2.2 e.val) q es.toList) : Paired (EntN X.w s.heap) ns es.toList :=
  L2.Paired.mapP (paired_comp hk.2 hp) fun n e ⟨x, ⟨h1, h2, h3⟩, h4, h5, _⟩ => by
    obtain ⟨as, r⟩ := Dp.reads I _ _ _ h2 h5
    exact ⟨is_reads n _ _ r, by rw [h4, h1], h3⟩
theorem ext_at {a : Addr} {φ : Heap → Prop} (I : Inv X pins σ H s) (e : H a = some (.ext φ)) : φ s.heap := (show ObjOk X.prog X.w H s.heap a (.ext φ) from I.hok a _ e).1
theorem dny_ok {P : Program} {w : World} {H : Hp} {h : Heap} {a : Addr} {q : List (Int × V × V)} (l : q.length ≤ sizeLine) (y : (a == sysModules) = false) {o : Obj} {es : Array DictEntry} {ep : Nat} (ho : h.get? a = some o) (hc : o.ExactDict) (hd : o.data = .dict es ep)
    (hp : Paired (fun (x : Int × V × V) (e : DictEntry) => e.hash = x.1 ∧ RelV x.2.1 e.key ∧ RelV x.2.2 e.val) q es.toList) : ObjOk P w H h a (DnyO a q) :=
  ⟨⟨l, y, o, es, ep, ho, hc, hd, hp⟩, ⟨o, ho⟩, fun h1 h2 ⟨a1, a2, o1, e1, p1, b1, b2, b3, b4⟩ k => ⟨a1, a2, o1, e1, p1, k _ b1, b2, b3, b4⟩⟩
theorem set_n {E : Value → Shared → Prop} {D : Addr} {ns : List NestedKey} {q : List (Int × V × V)} {k : NestedKey} {y z : V} {u r : Value} {Q : Unit → Shared → Prop} (hu : X.A.units + 9 < cLine) (I : Inv X pins σ H s) (hD : H D = some (DnyO D q)) (hz : q.length < sizeLine)
    (hk : KeysN X.K X.w H ns q) (dk : Dp X.K H y k.data) (d8 : k.depth ≤ 8) (ry : RelV y u) (rv : RelV z r) (h : ∀ s', Inv X pins σ (upd H D (DnyO D (putN X.w ns q k y z))) s' → Q () s') : wpAny (model X.prog X.w) X.A (dictSet D u r) Q E s := by
  obtain ⟨l, sy, o, es, ep, ho, hc, hd, hp⟩ := ext_at I hD
  have he := ents_n I hk hp
  obtain ⟨as, rk⟩ := Dp.reads I _ _ _ dk ry
  have ik := is_reads k _ _ rk
  have hl : es.size = q.length := by rw [← Array.length_toList, ← Paired.length hp]
  have hl2 : (putN X.w ns q k y z).length ≤ sizeLine := by have := len_putN X.w ns q k y z; omega
  unfold dictSet
  refine wpAny_holding ?_
  refine wpAny_bind (pyHash_key k u _ s _ ik (by omega) ?_)
  unfold dictSetHashed
  refine wpAny_holding ?_
  refine wpAny_bind (find_n (s := { s with toks := s.toks + k.draws }) hu ik d8 ho hd he hk.1 (fun hno => ?_) fun j hj => ?_)
  · refine wpAny_bind (wpAny_rule (wpAny_updateDictKeys (hz := by omega) (s := { s with toks := s.toks + k.draws }) ho hd (h _ ?_)))
    refine d_write (s := s) (t' := s.toks + k.draws) I (by rw [hD]; exact True.intro) (Heap.SameBut.update ..) ⟨_, Heap.get?_update_self _ ho (Obj.isFreed_of_dict (Obj.data_mapDictKeys hd _))⟩ ?_
    refine dny_ok hl2 sy (Heap.get?_update_self _ ho (Obj.isFreed_of_dict (Obj.data_mapDictKeys hd _))) (hc.mapDictKeys _) (Obj.data_mapDictKeys hd _) ?_
    rw [putN, if_neg hno, Array.toList_push]
    exact paired_app hp (.cons ⟨rfl, ry, rv⟩ .nil)
  · refine wpAny_bind (wpAny_rule (wpAny_bind (wpAny_updateDict (s := { s with toks := s.toks + k.draws }) ho hd (wpAny_point (h _ ?_)))))
    refine d_write (s := s) (t' := s.toks + k.draws) I (by rw [hD]; exact True.intro) (Heap.SameBut.update ..) ⟨_, Heap.get?_update_self _ ho (Obj.isFreed_of_dict (Obj.data_mapDict hd _))⟩ ?_
    refine dny_ok hl2 sy (Heap.get?_update_self _ ho (Obj.isFreed_of_dict (Obj.data_mapDict hd _))) (hc.mapDict _) (Obj.data_mapDict hd _) ?_
    have hm : k ∈ ns := List.mem_of_getElem? hj
    have hj2 : ns.idxOf k = j := nodup_at hk.1 (at_idxOf hm) hj
    rw [putN, if_pos hm, hj2, modify_list]
    exact paired_modify (fun x e ⟨h1, h2, h3⟩ => ⟨h1, h2, rv⟩) j hp
end
end Dl

namespace Dl
open PySem L2 PySem.SeqAt PySem.Spec PyProof.Rows
abbrev Ctx' (X : Cx) (sh : Shared) (Hq : Hp) (sc : Scope) (C : Addr) (cl : List (Str × Addr)) (fp : List Addr) : Cx := X.blk sh Hq sc (compEnvC sc cl C X.env) fp
def tDcN (X : Cx) (wi : L2.TI) (g : TG) (tk tv : TE) (vs : List Nat) : TE := fun σ H Q => wi σ H fun J H1 => ∀ D, H1 D = none → ∃ W : Nat → Nat → Hp → Prop, (∃ m, W 0 m (upd H1 D (DnyO D []))) ∧ ∀ i m H, W i m H →
  (J.stop i H ∧ Q (.ref D) H) ∨ (J.go i H ∧ ∃ Nx : Hp → Prop, (∀ H', Nx H' → ∃ m', m' < m ∧ W (i + 1) m' H') ∧ ∀ x H', J.yld i H x H' → g x (wipe σ vs) H' fun σ2 H2 => wipe σ2 vs = wipe σ vs ∧
    tk σ2 H2 fun y H4 => tv σ2 H4 fun z H5 => ∃ (ns : List NestedKey) (q : List (Int × V × V)) (k : NestedKey), H5 D = some (DnyO D q) ∧ q.length < sizeLine ∧ KeysN X.K X.w H5 ns q ∧ Dp X.K H5 y k.data ∧ k.depth ≤ 8 ∧ Nx (upd H5 D (DnyO D (putN X.w ns q k y z))))
theorem dny_new {P : Program} {w : World} {H : Hp} (h : Heap) (hb : sysModules < h.objs.size) : ObjOk P w H (h.push { cls := .type "dict", data := .dict #[] }) h.objs.size (DnyO h.objs.size []) :=
  dny_ok (Nat.zero_le _) (beq_eq_false_iff_ne.mpr (Ne.symm (Nat.ne_of_lt hb))) (Heap.get?_push_size _ rfl) ⟨rfl, rfl, rfl⟩ rfl .nil
theorem compLoop_n {prog : Program} {w : World} {A : Around} {R : Result → Shared → Prop} {s : Shared} {kx vx tg iter : Expr} {sc : Scope} {pos : Pos} {it : Value} {D : Addr} {env : Env} (I : Nat → Shared → Prop)
    (turn : ∀ n s, I n s → wpAny (model prog w) A (pyNext it) (fun r s1 => match r with
      | none => R (.ok .next) s1
      | some v => wpAny (model prog w) A (letOwnedTupleGo tg it v) (fun _ s2 => wpAny (model prog w) A (assign tg env v) (fun _ s3 =>
          wpAny (model prog w) A (eval kx env) (fun kv s4 => wpAny (model prog w) A (eval vx env) (fun vv s5 =>
            wpAny (model prog w) A (dictSet D kv vv) (fun _ s6 => ∃ m, m < n ∧ I m s6) (fun _ _ => False) s5) (fun _ _ => False) s4) (fun _ _ => False) s3) (fun _ _ => False) s2) (fun _ _ => False) s1) (fun _ _ => False) s)
    (n : Nat) (h : I n s) : codeAny (model prog w) A (.compLoop (.DictComp kx vx [⟨tg, iter, [], 0⟩] sc pos) 0 it (.ref D) env) R s := by
  refine compLoop_anyD I (fun n s hI => ?_) n h
  refine thnF (turn n s hI) fun r s1 h1 => ?_
  cases r with
  | none => exact h1
  | some v =>
    refine thnF h1 fun _ s2 h2 => thnF h2 fun _ s3 h3 => wpAny_tests_nil ?_
    rw [if_pos rfl]
    exact thnF h3 fun kv s4 h4 => thnF h4 fun vv s5 h5 => thnF h5 fun _ s6 h6 => h6
section
variable {X : Cx}
theorem pe_dcN {kx vx tg iter : Expr} {sc : Scope} {own : List (Str × Nat)} {pos : Pos} {wi : L2.TI} {g : TG} {tk tv : TE} (hu : X.A.units + 9 < cLine) (hc : X.calm = true) (hN : X.N.Nodup) (hi : PI X tg iter wi) (ok : BlkOk X.N X.env.scope sc own)
    (hg : ∀ sh Hq C cl fp, PG (Ctx' X sh Hq sc C cl fp) tg g) (hk : ∀ sh Hq C cl fp, PE (Ctx' X sh Hq sc C cl fp) kx tk) (hv : ∀ sh Hq C cl fp, PE (Ctx' X sh Hq sc C cl fp) vx tv)
    (hs : ∀ x, foldedSetIterable iter X.env x = pure x := by intro _; rfl) : PE X (.DictComp kx vx [⟨tg, iter, [], 0⟩] sc pos) (tDcN X wi g tk tv (own.map (·.2))) := by
  refine ⟨fun pins s0 σ H Q I0 h => ?_⟩
  rw [arm_eval_DictComp]
  have free : ∀ y ∈ sc.names, y.2 = .free → ∃ c, X.env.cells.lookup y.1 = some c := fun y hy e => (ok.free y hy e).elim (fun z => I0.ok.has _ (.inl z)) fun z => I0.ok.has _ (.inr z)
  refine wpAny_comprehension_free (use := none) rfl hs (closure_ok free) ok.kind (fun y hy e => by rw [ok.uniq y hy, e]) (thn (hi.run pins s0 σ H _ I0 h) fun xv s1 hx => thn hx fun itv s2 h2 => ?_)
  obtain ⟨it, fp, tn, J, H2, rfl, I2, T, st2, f2, q⟩ := h2
  refine wpAny_newObj_type (newEnv_comp ?_)
  generalize hD : s2.heap.objs.size = D
  obtain ⟨W, ⟨m0, w0⟩, turn⟩ := q D (I2.hok.fresh (Nat.le_of_eq hD))
  have below : ∀ b ∈ fp, b < D := fun b hb => by obtain ⟨o, e, _⟩ := T.obj _ _ st2 b hb; rw [← hD]; exact Heap.lt_size e
  generalize e3 : ({ s2 with heap := s2.heap.push { cls := .type "dict", data := .dict #[] } } : Shared) = s3
  have h3 : s3.heap = s2.heap.push { cls := .type "dict", data := .dict #[] } := by rw [← e3]
  have I3 : Inv X pins σ (upd H2 D (DnyO D [])) s3 := by
    rw [← e3]
    refine I2.laid (t' := s2.toks) (fun b o e => Heap.get?_push_of_some _ e) (Nat.le_of_eq hD) ?_
    rw [← hD]
    exact dny_new s2.heap I2.big
  have keep3 : ∀ b o, s2.heap.get? b = some o → s3.heap.get? b = some o := fun b o e => by rw [h3]; exact Heap.get?_push_of_some _ e
  have f3 : ∀ b ∈ fp, FpOk X pins (upd H2 D (DnyO D [])) b ∧ b < s3.heap.objs.size := fun b hb =>
    ⟨⟨by rw [upd_ne (Nat.ne_of_lt (below b hb))]; exact (f2 b hb).1, (f2 b hb).2⟩, by rw [h3, Heap.size_push, hD]; exact Nat.lt_succ_of_lt (below b hb)⟩
  have st3 : tn 0 s3.heap := T.keep _ _ _ st2 fun b _ o e => keep3 b o e
  have I4 := block_start I3 ok hN f3
  generalize eC : s3.heap.objs.size = C at I4 ⊢
  generalize ecl : cellsFrom (C + 1) sc.names (cloFrom X.env.cells sc.names []) = cl at I4 ⊢
  generalize eH3 : upd H2 D (DnyO D []) = H3 at I3 I4 w0 f3
  have pg := hg s3 H3 C cl fp
  have pk := hk s3 H3 C cl fp
  have pv := hv s3 H3 C cl fp
  generalize eB : Ctx' X s3 H3 sc C cl fp = B at pg pk pv
  have eB' : X.blk s3 H3 sc (compEnvC sc cl C X.env) fp = B := eB
  rw [eB'] at I4
  show codeAny _ _ (.compStart (.DictComp kx vx [⟨tg, iter, [], 0⟩] sc pos) 0 (.ref it) (.ref D) (compEnvC sc cl C X.env)) (compPost (model X.prog X.w) X.A X.xe none _ (.ref D) C) { s3 with heap := pushCells (s3.heap.push { cls := .type "dict", data := .dict #[] }) sc.names }
  generalize e4 : ({ s3 with heap := pushCells (s3.heap.push { cls := .type "dict", data := .dict #[] }) sc.names } : Shared) = s4 at I4 ⊢
  have st4 : tn 0 s4.heap := T.keep _ _ _ st3 fun b _ o e => by rw [← e4]; exact pushCells_keeps _ _ _ _ (Heap.get?_push_of_some _ e)
  have bA : B.A = X.A := by subst eB; rfl
  have bP : B.prog = X.prog := by subst eB; rfl
  have bw : B.w = X.w := by subst eB; rfl
  have bK : B.K = X.K := by subst eB; rfl
  have bc : B.calm = true := by subst eB; exact hc
  have be : B.env = compEnvC sc cl C X.env := by subst eB; rfl
  have stay : ∀ {σ' : L2.St} {H' : Hp} {s' : Shared}, Inv B [] σ' H' s' → (∀ b ∈ fp, H' b = none) → ∀ b ∈ fp, FpOk B [] H' b := fun {σ' H' s'} I' hn b hb => by
    subst eB
    exact ⟨hn b hb, (I'.ok.exf b hb).1, I'.ok.exfs b hb, .inl hb, fun x c e => (I'.ok.exf b hb).2 x c e, fun p hp => absurd (show p ∈ ([] : List (Addr × Obj)) ++ [] from hp) (by simp)⟩
  have n3 : ∀ b ∈ fp, H3 b = none := fun b hb => (f3 b hb).1.1
  have loop : codeAny (model X.prog X.w) X.A (.compLoop (.DictComp kx vx [⟨tg, iter, [], 0⟩] sc pos) 0 (.ref it) (.ref D) (compEnvC sc cl C X.env)) (compPost (model X.prog X.w) X.A X.xe none (EP X pins σ Q) (.ref D) C) s4 := by
    refine compLoop_n (fun n s' => ∃ i H', Inv B [] (wipe σ (own.map (·.2))) H' s' ∧ tn i s'.heap ∧ (∀ b ∈ fp, H' b = none) ∧ W i n H') ?_ m0 ⟨0, H3, I4, st4, n3, w0⟩
    rintro n s5 ⟨i, H5, I5, st5, n5, w5⟩
    rcases turn i n H5 w5 with ⟨stop, qq⟩ | ⟨go, Nx, hNx, step⟩
    · have td := T.done B bP bw bK bc i [] s5 _ H5 (fun _ _ => False) I5 (stay I5 n5) st5 stop
      rw [bA] at td
      refine thnF td fun r s6 ⟨hr, I6⟩ => ?_
      subst hr
      subst eB
      have I7 : Inv X pins σ H5 s6 := I3.call' (ch := fp) I6.os I6.base I6.hok I6.bare fun b hb => ⟨(f3 b hb).1.2.2.2.1, (f3 b hb).1.2.1, (f3 b hb).1.2.2.2.2.1, (f3 b hb).1.2.2.2.2.2⟩
      have nC : H5 C = none := I6.free
      obtain ⟨m, hn, _⟩ := I6.loc
      have fC := I3.fpOk (Nat.le_of_eq eC) nC
      refine ⟨m, hn, fun h'' sb => ?_⟩
      obtain ⟨a0, a1, a2, a3, a4, a5⟩ := fC
      exact ⟨.ref D, H5, I7.turned (t' := s6.toks) (fun b o hb e => (sb.2 b hb).trans e) a0 a1 a3 a4 a5, rfl, qq⟩
    · have ti := T.item B bP bw bK bc i [] s5 _ H5 (fun _ _ => False) I5 (stay I5 n5) st5 go
      rw [bA] at ti
      refine thnF ti fun r s6 ⟨u, hr, h6⟩ => ?_
      subst hr
      refine thnF h6 fun _ s7 ⟨x, H7, I7, r7, y7, st7, n7⟩ => ?_
      have I7' := I7.pinned (stay I7 n7) (T.obj _ _ st7)
      have p1 := pg.run _ s7 _ H7 x u _ I7' r7 (step x H7 y7)
      rw [bP, bw, bA, be] at p1
      refine thnF (wpAny_mono p1 (fun _ _ z => z) fun _ _ z => by first | exact z | (subst eB; exact z)) fun _ s8 ⟨σ8, H8, I8, hw8, q8⟩ => ?_
      have p2 := pk.run _ s8 σ8 H8 _ I8 q8
      rw [bP, bw, bA, be] at p2
      refine thnF (wpAny_mono p2 (fun _ _ z => z) fun _ _ z => by first | exact z | (subst eB; exact z)) fun z1 s9 ⟨yk, H9, I9, r9, q9⟩ => ?_
      have p3 := pv.run _ s9 σ8 H9 _ I9 q9
      rw [bP, bw, bA, be] at p3
      refine thnF (wpAny_mono p3 (fun _ _ z => z) fun _ _ z => by first | exact z | (subst eB; exact z)) fun z2 s10 ⟨yv, H10, I10, r10, ns, qq, k, hD10, hz10, hkn, hdp, hd8, nx⟩ => ?_
      have hu' : B.A.units + 9 < cLine := by rw [bA]; exact hu
      have hkn' : KeysN B.K B.w H10 ns qq := by rw [bK, bw]; exact hkn
      have hdp' : Dp B.K H10 yk k.data := by rw [bK]; exact hdp
      have last := set_n (E := fun _ _ => False) (Q := fun _ s' => ∃ m, m < n ∧ ∃ i H', Inv B [] (wipe σ (own.map (·.2))) H' s' ∧ tn i s'.heap ∧ (∀ b ∈ fp, H' b = none) ∧ W i m H') hu' I10 hD10 hz10 hkn' hdp' hd8 r9 r10 fun s11 I11 => by
        rw [bw] at I11
        obtain ⟨m', hm, w'⟩ := hNx _ nx
        generalize upd H10 D (DnyO D (putN X.w ns qq k yk yv)) = H11 at I11 w'
        have pin' : ∀ b ∈ fp, ∀ o, s7.heap.get? b = some o → s11.heap.get? b = some o ∧ H11 b = none := fun b hb o e =>
          let z := I11.pin (b, o) (List.mem_append_right _ (List.mem_append_right _ (mem_pinsAt hb e)))
          ⟨z.1, z.2.1⟩
        have hl : (wipe σ (own.map (·.2))).length = σ8.length := by rw [← hw8, wipe_length]
        refine ⟨m', hm, i + 1, H11, (I11.unpinned (pins := [])).weak hl (fun j v e => ?_), T.keep _ _ _ st7 fun b hb o e => (pin' b hb o e).1, fun b hb => ?_, w'⟩
        · rw [← hw8] at e
          exact (wipe_some e).1
        · obtain ⟨o, e, _⟩ := T.obj _ _ st7 b hb
          exact (pin' b hb o e).2
      rw [bP, bw, bA] at last
      exact last
  exact codeAny_compStart_dict loop (T.self X.A 0 _ _ _ st4 loop)
end
end Dl

namespace Dl
open PySem L2 PySem.SeqAt
mutual
def nk : D → NestedKey
  | .int i => .num i
  | .str x => .text x
  | .tup ds => .tup (nks ds)
  | _ => .none
def nks : List D → List NestedKey
  | [] => []
  | d :: ds => nk d :: nks ds
end
mutual
/-- data that may be a key: whole numbers, texts, tuples of these -/
def isK : D → Bool
  | .int _ => true
  | .str x => PyData.strOk x
  | .tup ds => isKs ds
  | _ => false
def isKs : List D → Bool
  | [] => true
  | d :: ds => isK d && isKs ds
end
mutual
theorem nk_pure : ∀ d : D, isK d = true → pureD d = true
  | .int _, _ => rfl
  | .str x, h => by rw [pureD]; rwa [isK] at h
  | .tup ds, h => by rw [pureD]; rw [isK] at h; exact nks_pure ds h
  | .non, h => by simp [isK] at h
  | .bl _, h => by simp [isK] at h
  | .byt _, h => by simp [isK] at h
  | .lst _, h => by simp [isK] at h
  | .ref _, h => by simp [isK] at h
  | .scr _, h => by simp [isK] at h
  | .fn _ _ _ _, h => by simp [isK] at h
  | .exh _ _ _ _ _, h => by simp [isK] at h
theorem nks_pure : ∀ ds : List D, isKs ds = true → pureDs ds = true
  | [], _ => rfl
  | d :: ds, h => by
    rw [isKs, Bool.and_eq_true] at h
    rw [pureDs, nk_pure d h.1, nks_pure ds h.2]; rfl
end
mutual
theorem nk_py : ∀ d : D, isK d = true → (nk d).data = pyD d
  | .int _, _ => rfl
  | .str x, h => rfl
  | .tup ds, h => by rw [isK] at h; rw [nk, NestedKey.data, pyD, nks_py ds h]
  | .non, h => by simp [isK] at h
  | .bl _, h => by simp [isK] at h
  | .byt _, h => by simp [isK] at h
  | .lst _, h => by simp [isK] at h
  | .ref _, h => by simp [isK] at h
  | .scr _, h => by simp [isK] at h
  | .fn _ _ _ _, h => by simp [isK] at h
  | .exh _ _ _ _ _, h => by simp [isK] at h
theorem nks_py : ∀ ds : List D, isKs ds = true → NestedKey.datas (nks ds) = pyDs ds
  | [], _ => rfl
  | d :: ds, h => by
    rw [isKs, Bool.and_eq_true] at h
    rw [nks, NestedKey.datas, pyDs, nk_py d h.1, nks_py ds h.2]
end
mutual
theorem nk_inj : ∀ a b : D, isK a = true → isK b = true → nk a = nk b → a = b
  | .int i, b, _, hb, e => by cases b <;> first | (simp [nk] at e; subst e; rfl) | simp [nk] at e | simp [isK] at hb
  | .str x, b, _, hb, e => by cases b <;> first | (simp [nk] at e; subst e; rfl) | simp [nk] at e | simp [isK] at hb
  | .tup ds, b, ha, hb, e => by
    cases b with
    | tup es =>
      rw [nk, nk] at e
      rw [isK] at ha hb
      rw [nks_inj ds es ha hb (NestedKey.tup.inj e)]
    | int _ => simp [nk] at e
    | str _ => simp [nk] at e
    | _ => simp [isK] at hb
  | .non, _, h, _, _ => by simp [isK] at h
  | .bl _, _, h, _, _ => by simp [isK] at h
  | .byt _, _, h, _, _ => by simp [isK] at h
  | .lst _, _, h, _, _ => by simp [isK] at h
  | .ref _, _, h, _, _ => by simp [isK] at h
  | .scr _, _, h, _, _ => by simp [isK] at h
  | .fn _ _ _ _, _, h, _, _ => by simp [isK] at h
  | .exh _ _ _ _ _, _, h, _, _ => by simp [isK] at h
theorem nks_inj : ∀ a b : List D, isKs a = true → isKs b = true → nks a = nks b → a = b
  | [], [], _, _, _ => rfl
  | [], _ :: _, _, _, e => by simp [nks] at e
  | _ :: _, [], _, _, e => by simp [nks] at e
  | x :: a, y :: b, ha, hb, e => by
    rw [isKs, Bool.and_eq_true] at ha hb
    rw [nks, nks] at e
    injection e with e1 e2
    rw [nk_inj x y ha.1 hb.1 e1, nks_inj a b ha.2 hb.2 e2]
end
def keyOk (d : D) : Prop := isK d = true ∧ (nk d).depth ≤ 8
theorem keysN_of {K : PySem.W.Frag} {w : World} {G : GH} {H : Hp} {acc : List D} {q : List (Int × V × V)} (hn : (acc.map nk).Nodup) (hk : ∀ x ∈ acc, keyOk x) (hr : RepL K G H acc (q.map (·.2.1))) (hh : q.map (·.1) = acc.map (fun d => (nk d).hash w)) : KeysN K w H (acc.map nk) q := by
  refine ⟨hn, ?_⟩
  clear hn
  induction acc generalizing q with
  | nil =>
    cases q with
    | nil => exact .nil
    | cons _ _ => simp at hh
  | cons d ds ih =>
    cases q with
    | nil => simp at hh
    | cons x q =>
      simp only [List.map_cons, List.cons.injEq] at hh
      rw [List.map_cons] at hr
      unfold RepL at hr
      obtain ⟨y, r, e, h1, h2⟩ := hr
      simp only [List.cons.injEq] at e
      have kd := hk d (List.mem_cons_self ..)
      refine .cons ⟨hh.1, ?_, kd.2⟩ (ih (fun z hz => hk z (List.mem_cons_of_mem _ hz)) (by rw [e.2]; exact h2) hh.2)
      rw [nk_py d kd.1, e.1]
      exact dp_of h1 (nk_pure d kd.1)
def uniqG (acc : List D) : List D → List D
  | [] => acc
  | x :: xs => uniqG (if nk x ∈ acc.map nk then acc else acc ++ [x]) xs
def uniq (xs : List D) : List D := uniqG [] xs
def tLsN (td : TE) : TE := fun σ H Q => td σ H fun x H1 => ∃ (a : Addr) (q : List (Int × V × V)), x = V.ref a ∧ H1 a = some (DnyO a q) ∧ ∀ p, H1 p = none → Q (.ref p) (upd H1 p (.lst (q.map (·.2.1))))
theorem keys_vals : ∀ {q : List (Int × V × V)} {es : List DictEntry}, Paired (fun (x : Int × V × V) (e : DictEntry) => e.hash = x.1 ∧ RelV x.2.1 e.key ∧ RelV x.2.2 e.val) q es → Vals (q.map (·.2.1)) (es.map (·.key))
  | _, _, .nil => .nil
  | _, _, .cons h t => .cons h.2.1 (keys_vals t)
section
variable {X : Cx} {o : Expr} {td : TE} {p pos : Pos}
theorem pe_lsN (hc : X.calm = true) (hg : Gl X "list") (hm : X.mg "list" = none) (hd : PE X o td) (hse : starEach [o] X.env = [(false, eval o X.env)] := by rfl) : PE X (.Call (.Name "list" p) [o] [] pos) (tLsN td) := by
  refine ⟨fun pins s σ H Q I h => ?_⟩
  refine wpAny_Call_Name_kw (ld_blt I hg hm (u := .type "list") (by first | rfl | decide +kernel) ?_ (by first | decide +kernel | decide) (by first | decide +kernel | decide))
  rw [hse]
  refine PySem.callWith_type1 (thn (hd.run pins s σ H _ I h) ?_)
  rintro v s1 ⟨x, H1, I1, r1, a, q, rfl, ha, k⟩
  obtain rfl : v = Value.ref a := r1
  obtain ⟨l, sy, ob, es, ep, ho, hx, hdt, hp⟩ := ext_at I1 ha
  have hlen : es.size = q.length := by rw [← Array.length_toList, ← Paired.length hp]
  refine PySem.W.kdl_call (KdlSrc.rawDict (es := es) (ep := ep) sy) (I.ok.hd hc) ⟨ob, ho, hx, hdt⟩ (by rw [hlen]; exact l) ?_
  intro h' tk acc c hk hS hacc
  have eacc : acc.toList = es.toList.map (·.key) := by
    have n1 : acc.size = es.size := hacc.1
    refine List.ext_getElem (by simp [n1]) fun i h1 h2 => ?_
    have hi : i < acc.size := by simpa using h1
    obtain ⟨hi2, e⟩ := hacc.2 i acc[i] (by simp [hi])
    simp [e]
  refine ⟨.ref s1.heap.objs.size, upd H1 s1.heap.objs.size (.lst (q.map (·.2.1))), I1.laid (t' := tk) hk (Nat.le_refl _) ⟨?_, es.toList.map (·.key), c, keys_vals hp, ?_⟩, rfl, k _ (I1.hok.fresh (Nat.le_refl _))⟩
  · rw [List.length_map]; exact l
  · rw [← eacc]; exact hS
end
end Dl

namespace Dl
open PySem L2 PySem.SeqAt
def dUniq (wi : DTI) (j : Nat) : DTE := fun ρ G Q => j < ρ.length ∧ wi ρ G fun items ok G1 => (∀ p o, G1 p = none → ok (updG G1 p o)) ∧ (∀ x ∈ items, keyOk x) ∧ items.length < sizeLine ∧ ∀ p, G1 p = none → Q (.ref p) (updG G1 p (.lst (uniq items)))
theorem modify_map {α β : Type} {f : α → β} {g : α → α} (h : ∀ x, f (g x) = f x) : ∀ (l : List α) (i : Nat), (l.modify i g).map f = l.map f
  | [], i => by simp
  | x :: l, 0 => by simp [h]
  | x :: l, i + 1 => by simp [modify_map h l i]
theorem putN_keys {w : World} {ns : List NestedKey} {q : List (Int × V × V)} {k : NestedKey} {y z : V} : (putN w ns q k y z).map (·.2.1) = if k ∈ ns then q.map (·.2.1) else q.map (·.2.1) ++ [y] := by
  unfold putN
  split
  · exact modify_map (f := fun x : Int × V × V => x.2.1) (g := fun x => (x.1, x.2.1, z)) (fun _ => rfl) q _
  · simp
theorem putN_hash {w : World} {ns : List NestedKey} {q : List (Int × V × V)} {k : NestedKey} {y z : V} : (putN w ns q k y z).map (·.1) = if k ∈ ns then q.map (·.1) else q.map (·.1) ++ [k.hash w] := by
  unfold putN
  split
  · exact modify_map (f := fun x : Int × V × V => x.1) (g := fun x => (x.1, x.2.1, z)) (fun _ => rfl) q _
  · simp
theorem sl_set_of {d : D} : ∀ {ρ : DSt} {j : Nat}, j < ρ.length → sl (ρ.set j (some d)) j = some d
  | _ :: _, 0, _ => rfl
  | _ :: r, j + 1, h => by simp only [List.set_cons_succ, sl]; exact sl_set_of (by simpa using h)
theorem wipeD_length {ρ : DSt} : ∀ {vs : List Nat}, (wipeD ρ vs).length = ρ.length
  | [] => rfl
  | _ :: vs => by rw [wipeD, List.length_set, wipeD_length]
def UniqI (K : PySem.W.Frag) (w : World) (G1 : GH) (H1 : Hp) (D : Addr) (items : List Dl.D) (i : Nat) (H2 : Hp) : Prop := i ≤ items.length ∧ ∃ (acc : List Dl.D) (q : List (Int × V × V)), uniqG acc (items.drop i) = uniq items ∧ acc.length ≤ i ∧ (acc.map nk).Nodup ∧ (∀ x ∈ acc, keyOk x) ∧
  q.map (·.1) = acc.map (fun d => (nk d).hash w) ∧ Ext G1 H1 (updG G1 D (.raw (DnyO D q))) H2 ∧ GOk K (updG G1 D (.raw (DnyO D q))) H2 ∧ RepL K (updG G1 D (.raw (DnyO D q))) H2 acc (q.map (·.2.1))
theorem up_uniq {X : Cx} {wi : DTI} {j : Nat} {vs : List Nat} (hj : j ∈ vs) {σ : L2.St} {H : Hp} {Q : VK} (h : up X.K (dUniq wi j) σ H Q) :
    tLsN (tDcN X (upI X.K wi) ((CT.one j).gV X.K) (up X.K (dVar j)) (up X.K (dC (.bl true))) vs) σ H Q := by
  obtain ⟨ρ, G, Q', r, ⟨hjl, h⟩, k⟩ := h
  refine ⟨ρ, G, _, r, h, fun J items ok H1 G1 e1 r1 it h1 => fun D hD => ?_⟩
  obtain ⟨hok, hkey, hlen, hq⟩ := h1
  have gD : G1 D = none := r1.gok.fresh hD
  have ex0 : Ext G1 H1 (updG G1 D (.raw (DnyO D []))) (upd H1 D (DnyO D [])) := Ext.newG hD
  refine ⟨fun i m H2 => m = items.length - i ∧ UniqI X.K X.w G1 H1 D items i H2, ⟨items.length, by simp, Nat.zero_le _, [], [], by simp [uniq], Nat.le_refl _, List.nodup_nil, fun _ hx => (nomatch hx), rfl, ex0, r1.gok.put ex0 upd_same, repL_nil⟩, ?_⟩
  rintro i m H2 ⟨rfl, hi2, acc, q, hu, hal, hnd, hak, hqh, e3, g3, rl⟩
  have r3 : DRel X.K σ H2 ρ (updG G1 D (.raw (DnyO D q))) := r1.ext e3 g3
  obtain ⟨a, b⟩ := it _ H2 e3 g3 (hok D _ gD) i
  by_cases hlt : i < items.length
  · obtain ⟨go, yl⟩ := a items[i] (List.getElem?_eq_getElem hlt)
    refine .inr ⟨go, fun H3 => UniqI X.K X.w G1 H1 D items (i + 1) H3, fun H3 u => ⟨items.length - (i + 1), by omega, rfl, u⟩, fun x H3 hy => ?_⟩
    obtain ⟨e4, g4, rx⟩ := yl x H3 hy
    have r4 : DRel X.K (wipe σ vs) H3 (wipeD ρ vs) (updG G1 D (.raw (DnyO D q))) := (r3.ext e4 g4).wipe vs
    refine bindC_ok (ct := .one j) (by simpa [CT.slots] using hj) r4 rx (by rw [bindC]) fun σ5 r5 w5 => ⟨by rw [w5, wipe_wipe], (wipeD ρ vs).set j (some items[i]), updG G1 D (.raw (DnyO D q)), fun y G' => y = items[i] ∧ G' = updG G1 D (.raw (DnyO D q)), r5, ?_, ?_⟩
    · unfold dVar
      rw [sl_set_of (by rw [wipeD_length]; exact hjl)]
      exact ⟨rfl, rfl⟩
    rintro y d H5 G5 e5 r5' v5 ⟨rfl, rfl⟩
    refine ⟨_, _, fun z G' => G' = updG G1 D (.raw (DnyO D q)), r5', rfl, ?_⟩
    rintro z d6 H6 G6 e6 r6 v6 rfl
    have kk := hkey _ (List.getElem_mem hlt)
    have rl6 : RepL X.K (updG G1 D (.raw (DnyO D q))) H6 acc (q.map (·.2.1)) := ((rl.ext e4).ext e5).ext e6
    have vy : RepV X.K (updG G1 D (.raw (DnyO D q))) H6 items[i] y := v5.ext e6
    have hD6 : H6 D = some (DnyO D q) := r6.gok D _ updG_same
    have hql : q.length = acc.length := by have := congrArg List.length hqh; simpa using this
    refine ⟨acc.map nk, q, nk items[i], hD6, by omega, keysN_of hnd hak rl6 hqh, by rw [nk_py _ kk.1]; exact dp_of vy (nk_pure _ kk.1), kk.2, hlt, if nk items[i] ∈ acc.map nk then acc else acc ++ [items[i]], putN X.w (acc.map nk) q (nk items[i]) y z, ?_, ?_, ?_, ?_, ?_, ?_⟩
    · rw [← hu, List.drop_eq_getElem_cons hlt, uniqG]
    · split
      · omega
      · simp; omega
    · split
      · exact hnd
      · rename_i hno
        rw [List.map_append, List.nodup_append]
        exact ⟨hnd, by simp, fun x hx y hy => by simp at hy; subst hy; exact fun e => hno (e ▸ hx)⟩
    · split
      · exact hak
      · intro x hx
        rcases List.mem_append.mp hx with hx | hx
        · exact hak x hx
        · simp at hx; subst hx; exact kk
    · rw [putN_hash]
      by_cases hh : nk items[i] ∈ acc.map nk
      · rw [if_pos hh, if_pos hh, hqh]
      · rw [if_neg hh, if_neg hh, hqh]; simp
    · have ew : Ext (updG G1 D (.raw (DnyO D q))) H6 (updG G1 D (.raw (DnyO D (putN X.w (acc.map nk) q (nk items[i]) y z)))) (upd H6 D (DnyO D (putN X.w (acc.map nk) q (nk items[i]) y z))) := by
        have := Ext.write (G := updG G1 D (.raw (DnyO D q))) (H := H6) (p := D) (o := DnyO D (putN X.w (acc.map nk) q (nk items[i]) y z)) (u := .raw (DnyO D (putN X.w (acc.map nk) q (nk items[i]) y z))) updG_same
        rwa [updG_updG] at this
      have gw : GOk X.K (updG G1 D (.raw (DnyO D (putN X.w (acc.map nk) q (nk items[i]) y z)))) (upd H6 D (DnyO D (putN X.w (acc.map nk) q (nk items[i]) y z))) := by
        have := r6.gok.put (p := D) (o := DnyO D (putN X.w (acc.map nk) q (nk items[i]) y z)) (u := .raw (DnyO D (putN X.w (acc.map nk) q (nk items[i]) y z))) (by rw [updG_updG]; exact ew) upd_same
        rwa [updG_updG] at this
      refine ⟨(((e3.trans e4).trans e5).trans e6).trans ew, gw, ?_⟩
      rw [putN_keys]
      by_cases hh : nk items[i] ∈ acc.map nk
      · rw [if_pos hh, if_pos hh]; exact rl6.ext ew
      · rw [if_neg hh, if_neg hh]; exact (rl6.append (repL_one vy)).ext ew
  · have ei : i = items.length := by omega
    subst ei
    rw [List.drop_length, uniqG] at hu
    refine .inl ⟨b rfl, D, q, rfl, g3 D _ updG_same, fun p hp => ?_⟩
    have gp : GOk X.K G1 H2 := by have := g3.drop (p := D); rwa [dropG_updG gD] at this
    have ep : Ext G1 H1 G1 H2 := by have := e3.trans (Ext.drop (p := D)); rwa [dropG_updG gD] at this
    have rl' : RepL X.K G1 H2 acc (q.map (·.2.1)) := by have := rl.ext (Ext.drop (p := D)); rwa [dropG_updG gD] at this
    obtain ⟨e2, r2, v2⟩ := (r1.ext ep gp).newLst hp rl'
    rw [hu] at e2 r2 v2
    exact k _ _ _ _ ((e1.trans ep).trans e2) r2 v2 (hq p (gp.fresh hp))
section
variable {X : Cx}
theorem de_uniq {tg iter : Expr} {x : Str} {xp cp : Pos} {sc : Scope} {own : List (Str × Nat)} {j : Nat} {pos cpos p : Pos} {cj : Nat} {wi : DTI} (hu : X.A.units + 70 < cLine) (hc : X.calm = true) (hN : X.N.Nodup) (hgl : Gl X "list") (hm : X.mg "list" = none) (hi : DI X tg iter wi) (ok : BlkOk X.N X.env.scope sc own) (hj : j ∈ own.map (·.2))
    (hg : ∀ (s : Shared) (H : Hp) (C : Addr) (cl : List (Str × Addr)) (fp : List Addr), PG (X.blk s H sc (compEnvC sc cl C X.env) fp) tg ((CT.one j).gV X.K))
    (hk : ∀ (s : Shared) (H : Hp) (C : Addr) (cl : List (Str × Addr)) (fp : List Addr), DE (X.blk s H sc (compEnvC sc cl C X.env) fp) (.Name x xp) (dVar j))
    (hs : ∀ v, foldedSetIterable iter X.env v = pure v := by intro _; rfl)
    (hse : starEach [Expr.DictComp (.Name x xp) (.Constant (.bool true) cj cp) [⟨tg, iter, [], 0⟩] sc cpos] X.env = [(false, eval (Expr.DictComp (.Name x xp) (.Constant (.bool true) cj cp) [⟨tg, iter, [], 0⟩] sc cpos) X.env)] := by rfl) :
    DE X (.Call (.Name "list" p) [.DictComp (.Name x xp) (.Constant (.bool true) cj cp) [⟨tg, iter, [], 0⟩] sc cpos] [] pos) (dUniq wi j) :=
  (pe_lsN hc hgl hm (pe_dcN (by omega) hc hN hi ok hg hk (fun _ _ _ _ _ => de_bl) hs) hse).imp fun _ _ _ h => up_uniq hj h
end
theorem iUniq {wi : DTI} {j : Nat} {ρ : DSt} {G : GH} {Q : DK} (hj : j < ρ.length) (h : wi ρ G fun items ok G1 => (∀ p o, G1 p = none → ok (updG G1 p o)) ∧ (∀ x ∈ items, keyOk x) ∧ items.length < sizeLine ∧ ∀ p, G1 p = none → Q (.ref p) (updG G1 p (.lst (uniq items)))) : dUniq wi j ρ G Q := ⟨hj, h⟩
end Dl

namespace Dl
open PySem L2 PySem.W PySem.SeqAt PyProof.Rows
structure Srt2 (ds : List PyData) : Prop where
  one : ∀ d, d ∈ ds → d.plain = true ∧ d.depth ≤ 60 ∧ ∃ f r, d = .tuple (.tuple f :: r)
  two : ∀ d, d ∈ ds → ∀ d', d' ∈ ds → cmpb d d' = true
section
variable {prog : Program} {w : World} {A : Around} {E : Value → Shared → Prop} {s : Shared}
theorem kat_all {Q : Bool → Shared → Prop} : ∀ (xs ys : List PyData) (vs ws : List Value) (as bs : List Addr) (i : Nat) (fin : Bool), ReadsAll s.heap vs xs as → ReadsAll s.heap ws ys bs → cmpbs xs ys = true → PyData.plainAll xs = true → PyData.plainAll ys = true →
    A.units + min (PyData.depthAll xs) (PyData.depthAll ys) < cLine → fin = decide (xs.length < ys.length) → Q (tlt (keyToksAll xs) (keyToksAll ys)) s → KatLex prog w A false fin Q (vs.zip ws) i s
  | [], [], _, _, _, _, i, fin, ra, rb, _, _, _, _, hf, hq => by
    cases ra; cases rb
    refine kat_nil ?_
    rw [show tlt (keyToksAll []) (keyToksAll []) = false from lex_irrefl _] at hq
    rw [hf]; exact hq
  | [], y :: ys, _, _, _, _, i, fin, ra, rb, _, _, _, _, hf, hq => by
    cases ra; cases rb
    refine kat_nil ?_
    rw [(tlt_short y ys).1] at hq
    rw [hf]; simpa using hq
  | x :: xs, [], _, _, _, _, i, fin, ra, rb, _, _, _, _, hf, hq => by
    cases ra; cases rb
    refine kat_nil ?_
    rw [(tlt_short x xs).2] at hq
    rw [hf]; simpa using hq
  | x :: xs, y :: ys, _, _, _, _, i, fin, ra, rb, h, pa, pb, hu, hf, hq => by
    obtain ⟨c1, c2⟩ := cmpbs_cons h
    have pa' : x.plain = true ∧ PyData.plainAll xs = true := by simpa [PyData.plainAll] using pa
    have pb' : y.plain = true ∧ PyData.plainAll ys = true := by simpa [PyData.plainAll] using pb
    cases ra with
    | cons r rs =>
      cases rb with
      | cons r' rs' =>
        refine kat_cons (eqAt_plain x y A s _ _ _ _ r r' pa'.1 pb'.1 (room_head hu) prog w _ _ ?_)
        refine kat_go (fun e => kat_yes ?_) (fun e => kat_no ?_)
        · rw [tlt_yes c1 e] at hq
          exact kat_all xs ys _ _ _ _ (i + 1) fin rs rs' (c2 e) pa'.2 pb'.2 (room_tail hu) (by rw [hf, decide_eq_decide]; simp only [List.length_cons]; omega) hq
        · rw [tlt_no c1 e] at hq
          rw [show (false && i == 0) = false from rfl]
          refine kat_one _ _ ?_
          exact rc_c x y A s _ _ _ _ r r' c1 pa'.1 pb'.1 (room_head hu) prog w _ _ hq
theorem cmp_t {h : Heap} {vs : List Value} {ds : List PyData} (hs : ∀ b o, h.get? b = some o → s.heap.get? b = some o) (S : Srt2 ds) (hr : ∀ v ∈ vs, ∃ d ∈ ds, ∃ as, Reads h v d as) (hu : A.units + 61 < cLine) :
    SrtO.Cmp prog w A s (tuples' false) (fun p => p.1 ∈ vs) (SrtO.lt2 (ltv h)) := by
  intro p q hm hm'
  obtain ⟨d, hd, as, ra⟩ := hr _ hm
  obtain ⟨d', hd', bs, rb⟩ := hr _ hm'
  obtain ⟨p1, z1, f, r, rfl⟩ := S.one d hd
  obtain ⟨p2, z2, f', r', rfl⟩ := S.one d' hd'
  have hc : cmpbs (.tuple f :: r) (.tuple f' :: r') = true := by simpa [cmpb] using S.two _ hd _ hd'
  have pa : PyData.plainAll (.tuple f :: r) = true := by simpa [PyData.plain] using p1
  have pb : PyData.plainAll (.tuple f' :: r') = true := by simpa [PyData.plain] using p2
  have hroom : A.units + min (PyData.depthAll (.tuple f :: r)) (PyData.depthAll (.tuple f' :: r')) < cLine := by
    have : PyData.depthAll (.tuple f :: r) + 1 ≤ 60 := by simpa [PyData.depth] using z1
    omega
  show wpAny (model prog w) A (keyLt' (tuples' false) p.1 q.1) (fun b s' => s' = s ∧ b = ltv h p.1 q.1) (fun _ _ => False) s
  have hl : ltv h p.1 q.1 = tlt (keyToksAll (.tuple f :: r)) (keyToksAll (.tuple f' :: r')) := by
    unfold ltv
    rw [readOf_plain p1 ra, readOf_plain p2 rb]
    simp only [keyToks]
  rw [hl]
  have ra' := PyProof.Rows.Reads.keeps hs ra
  have rb' := PyProof.Rows.Reads.keeps hs rb
  generalize p.1 = u at ra'
  generalize q.1 = v at rb'
  cases ra' with
  | @tuple l o xs n _ _ h1 h2 h3 h4 =>
    cases rb' with
    | @tuple l' o' ys m _ _ k1 k2 k3 k4 =>
      have n1 : xs.size = (PyData.tuple f :: r).length := by simpa using ReadsAll.length _ _ _ h4
      have n2 : ys.size = (PyData.tuple f' :: r').length := by simpa using ReadsAll.length _ _ _ k4
      refine kat_lt h1 h3 k1 k3 ?_
      exact kat_all _ _ _ _ _ _ 0 _ h4 k4 hc pa pb hroom (by rw [n1, n2]) ⟨rfl, rfl⟩
theorem tups_t {h : Heap} : ∀ {vs : List Value}, (∀ v ∈ vs, ∃ f r as, Reads h v (.tuple (.tuple f :: r)) as) → ∃ fs, KatTups h vs fs ∧ fs.length = vs.length ∧ ∀ f ∈ fs, ∃ a o, f = Value.ref a ∧ h.get? a = some o ∧ o.cls = .type "tuple"
  | [], _ => ⟨[], KatTups.nil, rfl, fun f hf => by cases hf⟩
  | v :: vs, hv => by
    obtain ⟨fs, f1, f2, f3⟩ := tups_t (vs := vs) fun u hu => hv u (List.mem_cons_of_mem _ hu)
    obtain ⟨i, r, as, ra⟩ := hv v (List.mem_cons_self ..)
    cases ra with
    | @tuple l o xs n _ _ h1 h2 h3 h4 =>
      cases q : xs.toList with
      | nil => rw [q] at h4; cases h4
      | cons f fr =>
        rw [q] at h4
        cases h4 with
        | cons ri _ =>
          cases ri with
          | @tuple l2 o2 _ _ _ _ g1 g2 _ _ =>
            have hf : xs[0]? = some (.ref l2) := by rw [← Array.getElem?_toList, q]; rfl
            refine ⟨_ :: fs, KatTups.cons h1 h2 h3 hf f1, by simp [f2], fun g hg => ?_⟩
            rcases List.mem_cons.mp hg with e | e
            · exact ⟨l2, o2, e, g1, g2⟩
            · exact f3 g e
theorem sorted_t {l : Addr} {vs : List Value} {ds : List PyData} {Q : Value → Shared → Prop} (hl : s.heap.IsList l vs.toArray) (hz : vs.length ≤ sizeLine) (S : Srt2 ds) (hr : ∀ v ∈ vs, ∃ d ∈ ds, ∃ as, Reads s.heap v d as) (hu : A.units + 63 < cLine)
    (h : ∀ (h' : Heap) (d : Addr) (out : List Value), SrtO.Srtd (ltv s.heap) out → SrtO.Stb (ltv s.heap) out vs → (∀ b o, s.heap.get? b = some o → h'.get? b = some o) → s.heap.objs.size ≤ d → (∃ n, h'.get? d = some (seqObj "list" out.toArray n)) → Q (.ref d) { s with heap := h' }) :
    wpAny (model prog w) A (call (.builtin "sorted") [.ref l]) Q E s := by
  refine SrtO.sorted_ord (swo_ltv s.heap) hl hz (fun h2 h₁ a ha kk => ?_) fun out hs hb => ?_
  · intro h' keep
    have K : ∀ b o, s.heap.get? b = some o → h'.get? b = some o := fun b o e => keep b o (kk b o e).1 (kk b o e).2
    obtain ⟨fs, f1, f2, f3⟩ := tups_t (h := h') (vs := vs) fun v hv => by
      obtain ⟨d, hd, as, ra⟩ := hr v hv
      obtain ⟨-, -, f, r, rfl⟩ := S.one d hd
      exact ⟨f, r, as, PyProof.Rows.Reads.keeps K ra⟩
    refine ⟨tuples' false, fun Q E hq => ?_, cmp_t (s := { s with heap := h' }) (A := A.in1.in1) K S hr (by show A.units + 2 + 61 < cLine; omega)⟩
    refine kat_kind (T := .type "tuple") f1 (by omega) (fun f hm => ?_) (by rfl) ?_
    · obtain ⟨x, o, rfl, g1, g2⟩ := f3 f hm
      rw [← g2]
      exact (Looks.ld g1).andThen .now
    · rw [show (Value.type "tuple" != Value.type "tuple") = false from by decide +kernel]
      exact hq
  · exact h _ _ out hs hb (fun b o e => sortedAll_old e) (Nat.le_succ _) (sortedAll_at s.heap vs out.toArray)
end
structure SrtT (l : List D) : Prop where
  pure : pureDs l = true
  one : ∀ d, d ∈ l → depD d ≤ 60 ∧ ∃ f r, d = .tup (.tup f :: r)
  two : ∀ d, d ∈ l → ∀ d', d' ∈ l → cmpb (pyD d) (pyD d') = true
theorem SrtT.srt {l : List D} (h : SrtT l) : Srt2 (l.map pyD) := by
  refine ⟨fun d hd => ?_, fun d hd d' hd' => ?_⟩
  · obtain ⟨e, he, rfl⟩ := List.mem_map.mp hd
    obtain ⟨h1, i, r, rfl⟩ := h.one e he
    exact ⟨plain_py _, by rw [depth_py]; exact h1, pyDs i, pyDs r, by simp only [pyD, pyDs]⟩
  · obtain ⟨e, he, rfl⟩ := List.mem_map.mp hd
    obtain ⟨e', he', rfl⟩ := List.mem_map.mp hd'
    exact h.two e he e' he'
@[simp] def rSortT : DRC := fun ds G Q => arg1 ds fun x => match lsOf G x with
  | some l => SrtT l ∧ ∀ es p, List.Perm es l → Asc es → G p = none → Q (.ref p) (updG G p (.lst es))
  | none => False
theorem c_sortT {X : Cx} (hu : X.A.units + 70 < cLine) : DCall X (.builtin "sorted") rSortT := by
  intro pins s σ H xs us Q I r ⟨G, ds, q, g, rl, h0, k⟩
  obtain ⟨d, rfl, h⟩ := arg1_of h0
  obtain ⟨x, rfl, rx⟩ := repL_1 rl
  cases e : lsOf G d with
  | none => rw [e] at h; exact h.elim
  | some l =>
    rw [e] at h
    obtain ⟨S, h⟩ := h
    obtain ⟨a, ys, rfl, hs, rl2⟩ := ls_at g rx e
    obtain ⟨its, rv, hl, hz⟩ := I.list (SqL.of hs)
    obtain ⟨u, rfl, ru⟩ := vals1 r
    obtain rfl : u = Value.ref a := ru
    have rd := reads_of I g S.pure rl2 rv
    have hrefs : ∀ y ∈ ys, ∃ t, y = V.ref t := by
      have key : ∀ {l : List D} {ys : List V}, (∀ d ∈ l, ∃ i, d = D.tup i) → RepL X.K G H l ys → ∀ y ∈ ys, ∃ t, y = V.ref t := by
        intro l
        induction l with
        | nil => intro ys _ h y hy; unfold RepL at h; subst h; cases hy
        | cons d l ih =>
          intro ys hd h y hy
          unfold RepL at h
          obtain ⟨x, r, rfl, h1, h2⟩ := h
          rcases List.mem_cons.mp hy with z | z
          · subst z
            obtain ⟨i, rfl⟩ := hd d (List.mem_cons_self ..)
            unfold RepV at h1
            obtain ⟨t, _, e1, _⟩ := h1
            exact ⟨t, e1⟩
          · exact ih (fun d hd' => hd d (List.mem_cons_of_mem _ hd')) h2 y z
      exact key (fun d hd => by obtain ⟨_, f, r, e⟩ := S.one d hd; exact ⟨_, e⟩) rl2
    obtain ⟨e1, e2⟩ := refs_back rv hrefs
    refine sorted_t (ds := l.map pyD) hl.isList (by rw [← rv.length]; exact hz) S.srt (fun v hv => ?_) (by omega) fun h' d2 out h1 h2 kp hd hn => ?_
    · obtain ⟨d, hd, as, ra⟩ := rd.left v hv
      exact ⟨pyD d, List.mem_map.mpr ⟨d, hd, rfl⟩, as, ra⟩
    · have h3 : ∀ u ∈ out, ∃ a, u = Value.ref a := fun u hu => e2 u (h2.perm.mem_iff.mp hu)
      obtain ⟨n, hn⟩ := hn
      have pv : List.Perm (out.map backV) ys := by rw [e1]; exact h2.perm.map backV
      obtain ⟨es, pe, re⟩ := rep_perm pv.symm rl2
      have pp : pureDs es = true := by
        rw [pureDs_iff]
        intro d hd
        exact pureDs_iff.mp S.pure d (pe.mem_iff.mp hd)
      have ha : Asc es := asc_of (reads_of I g pp re (vals_back h3)) h1
      have hf := I.hok.fresh hd
      obtain ⟨e', g', rv'⟩ := new_lst g hf re
      refine ⟨.ref d2, upd H d2 (.lst (out.map backV)), I.laid (t' := s.toks) kp hd ⟨?_, out, n, vals_back h3, hn⟩, rfl, k _ _ _ _ e' g' rv' (h es d2 pe ha (g.fresh hf))⟩
      rw [pv.length_eq]
      exact hz
theorem sortT_i {l : List D} {G : GH} {Q : DK} (S : SrtT l) (h : ∀ es p, List.Perm es l → Asc es → G p = none → Q (.ref p) (updG G p (.lst es))) : rSortT [.lst l] G Q := ⟨S, h⟩

end Dl

namespace Dl
open PySem L2 PySem.W PySem.SeqAt PyProof.Rows
def rLtT : DR2 := fun x y G Q => okD x ∧ okD y ∧ cmpb (pyD x) (pyD y) = true ∧ Q (.bl (dlt x y)) G
theorem pyDs_ints : ∀ a : List Int, pyDs (a.map .int) = a.map .int
  | [] => rfl
  | x :: a => by rw [List.map_cons, pyDs, pyDs_ints a]; rfl
theorem pureDs_ints : ∀ a : List Int, pureDs (a.map .int) = true
  | [] => rfl
  | x :: a => by rw [List.map_cons, pureDs, pureDs_ints a]; rfl
section
variable {X : Cx}
theorem o_ltT (hu : X.A.units + 70 < cLine) : DOp X (compareOp .Lt) rLtT := by
  intro pins s σ H x y v u Q I rx ry ⟨G, dx, dy, q, g, r1, r2, h, k⟩
  obtain ⟨h1, h2, h3, h4⟩ := h
  have a1 := dp_of r1 h1.1
  have a2 := dp_of r2 h2.1
  obtain ⟨as, ra⟩ := Dp.reads I _ x v a1 rx
  obtain ⟨bs, rb⟩ := Dp.reads I _ y u a2 ry
  have hd : (pyD dx).depth ≤ 64 := by rw [depth_py]; exact h1.2
  refine rc_c (pyD dx) (pyD dy) X.A s v u as bs ra rb h3 (plain_py dx) (plain_py dy) (by omega) X.prog X.w _ _ ⟨.bl _, H, I, rfl, ?_⟩
  exact k _ _ H G (Ext.refl G H) g bl_rv h4
end
theorem ltT_i {x y : D} {G : GH} {Q : DK} (hx : okD x) (hy : okD y) (hc : cmpb (pyD x) (pyD y) = true) (h : Q (.bl (dlt x y)) G) : rLtT x y G Q := ⟨hx, hy, hc, h⟩
section
variable {X : Cx} {o e : Expr} {to : DTE} {apos cpos : Pos}
end
section
variable {X : Cx}
end
end Dl

namespace Dl
open PySem L2
theorem shown_big {i : Int} (h : i.natAbs < 10 ^ 575) : (PyData.shown (.int i)).length ≤ 576 := by
  have e := int_text_length_le10 (k := 575) (by decide) h
  show (Str.ofString (toString i)).length ≤ 576
  rw [ofString_length]; exact e
mutual
/-- plain data with ints of few digits -/
def mgD : D → Bool
  | .non => true
  | .bl _ => true
  | .int i => decide (i.natAbs < 10 ^ 575)
  | .str x => PyData.strOk x
  | .tup ds => mgDs ds
  | .lst ds => mgDs ds
  | _ => false
def mgDs : List D → Bool
  | [] => true
  | d :: ds => mgD d && mgDs ds
end
mutual
def wgD : D → Nat
  | .str x => x.length
  | .int i => i.natAbs.log2 + 1
  | .tup ds => wgDs ds
  | .lst ds => wgDs ds
  | _ => 0
def wgDs : List D → Nat
  | [] => 0
  | d :: ds => wgD d + 1 + wgDs ds
end
mutual
theorem mg_pure : ∀ d : D, mgD d = true → pureD d = true
  | .non, _ => by simp [pureD]
  | .bl _, _ => by simp [pureD]
  | .int _, _ => by simp [pureD]
  | .str x, h => by simpa [pureD, mgD] using h
  | .tup ds, h => by simpa [pureD] using mgs_pure ds (by simpa [mgD] using h)
  | .lst ds, h => by simpa [pureD] using mgs_pure ds (by simpa [mgD] using h)
  | .byt _, h => by simp [mgD] at h
  | .ref _, h => by simp [mgD] at h
  | .scr _, h => by simp [mgD] at h
  | .fn _ _ _ _, h => by simp [mgD] at h
  | .exh _ _ _ _ _, h => by simp [mgD] at h
theorem mgs_pure : ∀ ds : List D, mgDs ds = true → pureDs ds = true
  | [], _ => by simp [pureDs]
  | d :: ds, h => by
    simp only [mgDs, Bool.and_eq_true] at h
    simp [pureDs, mg_pure d h.1, mgs_pure ds h.2]
end
theorem log_big {i : Int} (h : i.natAbs < 10 ^ 575) : i.natAbs.log2 < 1911 := by
  by_cases e : i.natAbs = 0
  · rw [e]; decide
  · exact (Nat.log2_lt e).mpr (Nat.lt_of_lt_of_le h (by decide))
mutual
theorem mg_few : ∀ d : D, mgD d = true → fewD d = true
  | .non, _ => by simp [fewD]
  | .bl _, _ => by simp [fewD]
  | .int i, h => by
    simp only [mgD, decide_eq_true_eq] at h
    have := log_big h
    simp only [fewD, decide_eq_true_eq]
    omega
  | .str x, h => by simp [fewD]
  | .tup ds, h => by simpa [fewD] using mgs_few ds (by simpa [mgD] using h)
  | .lst ds, h => by simpa [fewD] using mgs_few ds (by simpa [mgD] using h)
  | .byt _, h => by simp [mgD] at h
  | .ref _, h => by simp [mgD] at h
  | .scr _, h => by simp [mgD] at h
  | .fn _ _ _ _, h => by simp [mgD] at h
  | .exh _ _ _ _ _, h => by simp [mgD] at h
theorem mgs_few : ∀ ds : List D, mgDs ds = true → fewDs ds = true
  | [], _ => by simp [fewDs]
  | d :: ds, h => by
    simp only [mgDs, Bool.and_eq_true] at h
    simp [fewDs, mg_few d h.1, mgs_few ds h.2]
end
mutual
theorem mg_short : ∀ d : D, mgD d = true → (pyD d).intsShort 576 = true
  | .non, _ => by simp [pyD, PyData.intsShort]
  | .bl _, _ => by simp [pyD, PyData.intsShort]
  | .int i, h => by
    simp only [mgD, decide_eq_true_eq] at h
    simp only [pyD, PyData.intsShort, decide_eq_true_eq]
    exact shown_big h
  | .str x, h => by simp [pyD, PyData.intsShort]
  | .tup ds, h => by simpa [pyD, PyData.intsShort] using mgs_short ds (by simpa [mgD] using h)
  | .lst ds, h => by simpa [pyD, PyData.intsShort] using mgs_short ds (by simpa [mgD] using h)
  | .byt _, h => by simp [mgD] at h
  | .ref _, h => by simp [mgD] at h
  | .scr _, h => by simp [mgD] at h
  | .fn _ _ _ _, h => by simp [mgD] at h
  | .exh _ _ _ _ _, h => by simp [mgD] at h
theorem mgs_short : ∀ ds : List D, mgDs ds = true → PyData.intsShortAll 576 (pyDs ds) = true
  | [], _ => by simp [pyDs, PyData.intsShortAll]
  | d :: ds, h => by
    simp only [mgDs, Bool.and_eq_true] at h
    simp [pyDs, PyData.intsShortAll, mg_short d h.1, mgs_short ds h.2]
end
mutual
theorem mg_weight : ∀ d : D, mgD d = true → (pyD d).weight ≤ wgD d
  | .non, _ => by simp [pyD, PyData.weight]
  | .bl _, _ => by simp [pyD, PyData.weight]
  | .int i, h => by
    simp only [mgD, decide_eq_true_eq] at h
    have := log_big h
    simp only [pyD, PyData.weight, wgD]
    split <;> omega
  | .str x, h => by simp [pyD, PyData.weight, wgD, Str.length]
  | .tup ds, h => by simpa [pyD, PyData.weight, wgD] using mgs_weight ds (by simpa [mgD] using h)
  | .lst ds, h => by simpa [pyD, PyData.weight, wgD] using mgs_weight ds (by simpa [mgD] using h)
  | .byt _, h => by simp [mgD] at h
  | .ref _, h => by simp [mgD] at h
  | .scr _, h => by simp [mgD] at h
  | .fn _ _ _ _, h => by simp [mgD] at h
  | .exh _ _ _ _ _, h => by simp [mgD] at h
theorem mgs_weight : ∀ ds : List D, mgDs ds = true → PyData.weightAll (pyDs ds) ≤ wgDs ds
  | [], _ => by simp [pyDs, PyData.weightAll]
  | d :: ds, h => by
    simp only [mgDs, Bool.and_eq_true] at h
    have h1 := mg_weight d h.1
    have h2 := mgs_weight ds h.2
    simp only [pyDs, PyData.weightAll, wgDs]
    omega
end
theorem okD_big {d : D} (h : mgD d = true) (k : depD d ≤ 64) : okD d := ⟨mg_pure d h, k⟩
theorem len_big {d : D} (h : mgD d = true) (k : depD d ≤ 64) (z : wgD d ≤ 2 ^ 14) : (shD d).length ≤ sizeLine := by
  have e := mg_weight d h
  have h3 : (pyD d).canLay0 = true := lay_py d (mg_pure d h)
  have := PyData.shown_le 576 (by decide) (pyD d) (PyData.leavesShort_of_canLay0 576 _ h3 (mg_short d h))
  unfold shD
  have e2 : sizeLine = 16777216 := by decide
  have e3 : (2 : Nat) ^ 14 = 16384 := by decide
  omega
theorem shw_big {d : D} (hs : isSeqD d = true) (h : mgD d = true) (k : depD d ≤ 64) (z : wgD d ≤ 2 ^ 14) : Shw d := ⟨hs, okD_big h k, mg_few d h, len_big h k z⟩
theorem mgDs_iff : ∀ {ds : List D}, mgDs ds = true ↔ ∀ d ∈ ds, mgD d = true
  | [] => by simp [mgDs]
  | d :: ds => by simp [mgDs, mgDs_iff (ds := ds)]
theorem wgDs_le : ∀ {ds : List D} {n : Nat}, (∀ d ∈ ds, wgD d ≤ n) → wgDs ds ≤ ds.length * (n + 1)
  | [], n, _ => by simp [wgDs]
  | d :: ds, n, h => by
    have h1 := h d (List.mem_cons_self ..)
    have h2 := wgDs_le fun x hx => h x (List.mem_cons_of_mem _ hx)
    rw [wgDs, List.length_cons, Nat.succ_mul]; omega
end Dl


namespace Dl
open PySem L2
def rCmpB (f : Bool → Bool) : DR2 := fun x y G Q => ∃ a b : Array UInt8, x = .byt a ∧ y = .byt b ∧ Q (.bl (f (decide (a = b)))) G
section
variable {X : Cx}
theorem o_eqB : DOp X (compareOp .Eq) (rCmpB id) := by
  intro pins s σ H x y v u Q I rx ry ⟨G, dx, dy, q, g, r1, r2, h, k⟩
  obtain ⟨a, b, rfl, rfl, h⟩ := h
  unfold RepV at r1 r2
  subst r1 r2
  refine op_eq pins s σ H _ _ v u Q I rx ry ⟨rfl, ?_⟩
  rw [show decide ((V.byt a) = V.byt b) = decide (a = b) from by rw [decide_eq_decide]; exact ⟨fun e => V.byt.inj e, fun e => by rw [e]⟩]
  exact k _ _ H G (Ext.refl G H) g bl_rv h
theorem o_neB : DOp X (compareOp .NotEq) (rCmpB not) := by
  intro pins s σ H x y v u Q I rx ry ⟨G, dx, dy, q, g, r1, r2, h, k⟩
  obtain ⟨a, b, rfl, rfl, h⟩ := h
  unfold RepV at r1 r2
  subst r1 r2
  refine op_ne pins s σ H _ _ v u Q I rx ry ⟨rfl, ?_⟩
  rw [show decide ((V.byt a) = V.byt b) = decide (a = b) from by rw [decide_eq_decide]; exact ⟨fun e => V.byt.inj e, fun e => by rw [e]⟩]
  exact k _ _ H G (Ext.refl G H) g bl_rv h
end
theorem cmpB_i {f : Bool → Bool} {a b : Array UInt8} {G : GH} {Q : DK} (h : Q (.bl (f (decide (a = b)))) G) : rCmpB f (.byt a) (.byt b) G Q := ⟨a, b, rfl, rfl, h⟩
end Dl

namespace K13
open PySem L2 Dl
abbrev CT : CTab := [("BarError", ["BarError"], []), ("PaperError", ["PaperError", "BarError"], []), ("WorkError", ["WorkError", "BarError"], []), ("LiveError", ["LiveError", "BarError"], []), ("TextError", ["TextError", "BarError"], []), ("InvalidPaper", ["InvalidPaper", "PaperError", "BarError"], ["word", "at"]), ("NotUsable", ["NotUsable", "WorkError", "BarError"], ["word", "at"]), ("NotNext", ["NotNext", "WorkError", "BarError"], ["sign", "at"]), ("InvalidText", ["InvalidText", "TextError", "BarError"], ["line", "field"]), ("InvalidRow", ["InvalidRow", "TextError", "BarError"], ["row"])]

def r_is_integer : DTS :=
  (dRet (dAndV (dIsi "int" (dVar 0)) (dNotV (dIsi "bool" (dVar 0)))))

def r_is_number (sp_is_integer : DSp) : DTS :=
  (dRet (dAndV (dCall sp_is_integer (dCons (dVar 0) dNil)) (dOp rGe (dVar 0) (dC (.int 0)))))

def r_is_sided : DTS :=
  (dRet (dAndV (dIsi "tuple" (dVar 0)) (dAndV (dOp rEqv (dCB rLen (dCons (dVar 0) dNil)) (dC (.int 2))) (dAndV (dIsi "str" (dOp rIx (dVar 0) (dC (.int 0)))) (dOp (rInn id) (dOp rIx (dVar 0) (dC (.int 0))) (dC (.tup [(.str "left"), (.str "right")])))))))

def r_is_sign (sp_is_number : DSp) (sp_is_sided : DSp) : DTS :=
  (dSeq (dWhile (dTru (dCall sp_is_sided (dCons (dVar 0) dNil)))
  (dAsg (dOp rIx (dVar 0) (dC (.int 1))) (gNm 0)))
  (dSeq (dIfS (dTru (dIsi "str" (dVar 0)))
  (dRet (dOp (rInn id) (dVar 0) (dC (.tup [(.str "tick"), (.str "more"), (.str "end")]))))
  dNext)
  (dSeq (dIfS (dOr (dNot (dTru (dIsi "tuple" (dVar 0)))) (dOr (dTst (dOp rNev (dCB rLen (dCons (dVar 0) dNil)) (dC (.int 2)))) (dNot (dTru (dIsi "str" (dOp rIx (dVar 0) (dC (.int 0))))))))
  (dRet (dC (.bl false)))
  dNext)
  (dRet (dAndV (dOp (rInn id) (dOp rIx (dVar 0) (dC (.int 0))) (dC (.tup [(.str "many"), (.str "way")]))) (dCall sp_is_number (dCons (dOp rIx (dVar 0) (dC (.int 1))) dNil)))))))

def r_is_signs (sp_is_sign : DSp) : DTS :=
  (dRet (dAndV (dIsi "tuple" (dVar 0)) (dCB rAllC (dCons (dFrz (dLc (iSq (dVar 0)) (.one 1) dYes (dCall sp_is_sign (dCons (dVar 1) dNil)) [1])) dNil))))

def r_require_usable : XTS :=
  (xIfS (xPt (dNot (dTru (dVar 0))))
  (xRaise "NotUsable" ["word", "at"] (xPa (dCons (dVar 1) (dCons (dVar 2) dNil))))
  (xPs dNext))

def r_sign_rank (sp_is_sided : DSp) : DTS :=
  (dSeq (dAsg (dLst dNil) (gNm 1))
  (dSeq (dAsg (dVar 0) (gNm 2))
  (dSeq (dWhile (dTru (dCall sp_is_sided (dCons (dVar 2) dNil)))
  (dSeq (dDrop (dMt mAppend (dVar 1) (dCons (dOp rAdd (dOp rAdd (dCB rLen (dCons (dC (.tup [(.str "tick"), (.str "more"), (.str "end")])) dNil)) (dCB rLen (dCons (dC (.tup [(.str "many"), (.str "way")])) dNil))) (dIdxT ["left", "right"] (dOp rIx (dVar 2) (dC (.int 0))))) dNil)))
  (dAsg (dOp rIx (dVar 2) (dC (.int 1))) (gNm 2))))
  (dSeq (dIfS (dTru (dIsi "str" (dVar 2)))
  (dRet (dTup (dStar (dVar 1) (dCons (dIdxT ["tick", "more", "end"] (dVar 2)) dNil))))
  dNext)
  (dRet (dTup (dStar (dVar 1) (dCons (dOp rAdd (dCB rLen (dCons (dC (.tup [(.str "tick"), (.str "more"), (.str "end")])) dNil)) (dIdxT ["many", "way"] (dOp rIx (dVar 2) (dC (.int 0))))) (dCons (dOp rIx (dVar 2) (dC (.int 1))) dNil)))))))))

def r_signs_rank (sp_sign_rank : DSp) : DTS :=
  (dRet (dCB rTupC (dCons (dFrz (dLc (iSq (dVar 0)) (.one 1) dYes (dCall sp_sign_rank (dCons (dVar 1) dNil)) [1])) dNil)))

def r_in_sign_order (sp_sign_rank : DSp) : DTS :=
  (dSeq (dAsg (dFrz (dCB rSortT (dCons (dFrz (dLc (iSq (dVar 0)) (.one 2) dYes (dTup (dCons (dCall sp_sign_rank (dCons (dVar 2) dNil)) (dCons (dVar 2) dNil))) [2])) dNil))) (gNm 1))
  (dRet (dCB rTupC (dCons (dFrz (dLc (iSq (dVar 1)) (.tup [3, 2]) dYes (dVar 2) [3, 2])) dNil))))

def r_sorted_signs (sp_in_sign_order : DSp) (sp_is_signs : DSp) (sx_require_usable : DSp) : XTS :=
  (xSeq (xDrop (xCall sx_require_usable (xPa (dCons (dCall sp_is_signs (dCons (dVar 0) dNil)) (dCons (dC (.str "signs")) (dCons (dNeg (dC (.int 1))) dNil))))))
  (xPs (dRet (dCall sp_in_sign_order (dCons (dFrz (dUniq (iSq (dVar 0)) 1)) dNil)))))

def r_is_ahead (sp_signs_rank : DSp) (sp_is_signs : DSp) (sx_require_usable : DSp) : XTS :=
  (xSeq (xDrop (xCall sx_require_usable (xPa (dCons (dCall sp_is_signs (dCons (dVar 0) dNil)) (dCons (dC (.str "signs")) (dCons (dNeg (dC (.int 1))) dNil))))))
  (xSeq (xDrop (xCall sx_require_usable (xPa (dCons (dCall sp_is_signs (dCons (dVar 1) dNil)) (dCons (dC (.str "other")) (dCons (dNeg (dC (.int 1))) dNil))))))
  (xPs (dRet (dOp rLtT (dCall sp_signs_rank (dCons (dVar 0) dNil)) (dCall sp_signs_rank (dCons (dVar 1) dNil)))))))

def r_number_codes : DTS :=
  (dSeq (dAsg (dLst dNil) (gNm 1))
  (dSeq (dAsg (dVar 0) (gNm 2))
  (dSeq (dWhile (dTst (dOp rGt (dVar 2) (dC (.int 0))))
  (dSeq (dDrop (dMt mAppend (dVar 1) (dCons (dOp rMod (dCB rIntC (dCons (dVar 2) dNil)) (dC (.int 256))) dNil)))
  (dAsg (dOp rFdiv (dVar 2) (dC (.int 256))) (gNm 2))))
  (dRet (dFrz (dLst (dCons (dCB rLen (dCons (dVar 1) dNil)) (dStar (dFrz (dRev (dVar 1))) dNil))))))))

def r_sign_codes (sp_number_codes : DSp) (sp_is_sided : DSp) : DTS :=
  (dSeq (dAsg (dLst dNil) (gNm 1))
  (dSeq (dAsg (dVar 0) (gNm 2))
  (dSeq (dWhile (dTru (dCall sp_is_sided (dCons (dVar 2) dNil)))
  (dSeq (dDrop (dMt mAppend (dVar 1) (dCons (dOp rAdd (dC (.int 5)) (dIdxT ["left", "right"] (dOp rIx (dVar 2) (dC (.int 0))))) dNil)))
  (dAsg (dOp rIx (dVar 2) (dC (.int 1))) (gNm 2))))
  (dSeq (dIfS (dTru (dIsi "str" (dVar 2)))
  (dRet (dFrz (dLst (dStar (dVar 1) (dCons (dIdxT ["tick", "more", "end"] (dVar 2)) dNil)))))
  dNext)
  (dRet (dFrz (dLst (dStar (dVar 1) (dCons (dOp rAdd (dC (.int 3)) (dIdxT ["many", "way"] (dOp rIx (dVar 2) (dC (.int 0))))) (dStar (dCall sp_number_codes (dCons (dOp rIx (dVar 2) (dC (.int 1))) dNil)) dNil))))))))))

def r_packed (sp_sign_codes : DSp) (sp_is_signs : DSp) (sx_require_usable : DSp) : XTS :=
  (xSeq (xDrop (xCall sx_require_usable (xPa (dCons (dCall sp_is_signs (dCons (dVar 0) dNil)) (dCons (dC (.str "signs")) (dCons (dNeg (dC (.int 1))) dNil))))))
  (xSeq (xPs (dAsg (dLst dNil) (gNm 1)))
  (xSeq (xFor (iSq (dVar 0)) (gNm 2)
  (xPs (dDrop (dMt mExtend (dVar 1) (dCons (dCall sp_sign_codes (dCons (dVar 2) dNil)) dNil)))))
  (xPs (dRet (dCB rBytC (dCons (dVar 1) dNil)))))))

def r_ByteReader___init__ : DTS :=
  (dSeq (dAsg (dVar 1) (gFld "ByteReader" "own_data" (dVar 0)))
  (dAsg (dC (.int 0)) (gFld "ByteReader" "spot" (dVar 0))))

def r_ByteReader_has_more : DTS :=
  (dRet (dOp rLt (dFld "ByteReader" "spot" (dVar 0)) (dCB rLenB (dCons (dFld "ByteReader" "own_data" (dVar 0)) dNil))))

def r_ByteReader_take_byte (sx_require_usable : DSp) (sp_ByteReader_has_more : DSp) : XTS :=
  (xSeq (xDrop (xCall sx_require_usable (xPa (dCons (dAndV (dMeth "ByteReader" "has_more" sp_ByteReader_has_more (dVar 0) dNil) (dChain rLe rLt (dVar 1) (dOp rIxB (dFld "ByteReader" "own_data" (dVar 0)) (dFld "ByteReader" "spot" (dVar 0))) (dVar 2))) (dCons (dC (.str "byte")) (dCons (dFld "ByteReader" "spot" (dVar 0)) dNil))))))
  (xSeq (xPs (dFAug "ByteReader" "spot" (dVar 0) (dC (.int 1))))
  (xPs (dRet (dOp rIxB (dFld "ByteReader" "own_data" (dVar 0)) (dOp rSub (dFld "ByteReader" "spot" (dVar 0)) (dC (.int 1))))))))

def r_ByteReader_take_digits (sx_ByteReader_take_byte : DSp) : XTS :=
  (xSeq (xAsg (xMethY "ByteReader" "take_byte" sx_ByteReader_take_byte 3 (dVar 0) (dCons (dC (.int 0)) (dCons (dC (.int 256)) dNil))) (gNm 1))
  (xSeq (xPs (dAsg (dC (.int 0)) (gNm 2)))
  (xSeq (xFor (iRg1 (dCons (dVar 1) dNil)) (gNm 3)
  (xAsg (xOp rAdd (xPe (dOp rMul (dVar 2) (dC (.int 256)))) (xMethY "ByteReader" "take_byte" sx_ByteReader_take_byte 3 (dVar 0) (dCons (dIf (dTst (dOp rEqv (dVar 3) (dC (.int 0)))) (dC (.int 1)) (dC (.int 0))) (dCons (dC (.int 256)) dNil)))) (gNm 2)))
  (xPs (dRet (dVar 2))))))

def r_ByteReader_take_sign (sx_ByteReader_take_digits : DSp) (sx_ByteReader_take_byte : DSp) : XTS :=
  (xSeq (xPs (dAsg (dLst dNil) (gNm 1)))
  (xSeq (xAsg (xMethY "ByteReader" "take_byte" sx_ByteReader_take_byte 3 (dVar 0) (dCons (dC (.int 0)) (dCons (dC (.int 7)) dNil))) (gNm 2))
  (xSeq (xWhile (xPt (dTst (dOp rGe (dVar 2) (dC (.int 5)))))
  (xSeq (xPs (dDrop (dMt mAppend (dVar 1) (dCons (dOp rIx (dC (.tup [(.str "left"), (.str "right")])) (dOp rSub (dVar 2) (dC (.int 5)))) dNil))))
  (xAsg (xMethY "ByteReader" "take_byte" sx_ByteReader_take_byte 3 (dVar 0) (dCons (dC (.int 0)) (dCons (dIf (dTst (dOp rLt (dCB rLen (dCons (dVar 1) dNil)) (dC (.int 29)))) (dC (.int 7)) (dC (.int 5))) dNil))) (gNm 2))))
  (xSeq (xIfS (xPt (dTst (dOp rLt (dVar 2) (dC (.int 3)))))
  (xPs (dAsg (dOp rIx (dC (.tup [(.str "tick"), (.str "more"), (.str "end")])) (dVar 2)) (gNm 3)))
  (xAsg (xTup (xCons (xPe (dOp rIx (dC (.tup [(.str "many"), (.str "way")])) (dOp rSub (dVar 2) (dC (.int 3))))) (xCons (xMethY "ByteReader" "take_digits" sx_ByteReader_take_digits 1 (dVar 0) dNil) (xPa dNil)))) (gNm 3)))
  (xSeq (xFor (iSq (dFrz (dRev (dVar 1)))) (gNm 4)
  (xPs (dAsg (dTup (dCons (dVar 4) (dCons (dVar 3) dNil))) (gNm 3))))
  (xPs (dRet (dVar 3))))))))

def r_unpacked (sx_require_usable : DSp) (sp_ByteReader_has_more : DSp) (sx_ByteReader_take_sign : DSp) (sp_ByteReader___init__ : DSp) : XTS :=
  (xSeq (xDrop (xCall sx_require_usable (xPa (dCons (dIsi "bytes" (dVar 0)) (dCons (dC (.str "data")) (dCons (dNeg (dC (.int 1))) dNil))))))
  (xSeq (xPs (dAsg (dMake "ByteReader" sp_ByteReader___init__ (dCons (dVar 0) dNil)) (gNm 1)))
  (xSeq (xPs (dAsg (dLst dNil) (gNm 2)))
  (xSeq (xWhile (xPt (dTru (dMeth "ByteReader" "has_more" sp_ByteReader_has_more (dVar 1) dNil)))
  (xDrop (xApp (dVar 2) (xMethY "ByteReader" "take_sign" sx_ByteReader_take_sign 1 (dVar 1) dNil))))
  (xPs (dRet (dCB rTupC (dCons (dVar 2) dNil))))))))

def r_require_paper : XTS :=
  (xIfS (xPt (dNot (dTru (dVar 0))))
  (xRaise "InvalidPaper" ["word", "at"] (xPa (dCons (dVar 1) (dCons (dVar 2) dNil))))
  (xPs dNext))

def r_lets_signs (sp_is_sign : DSp) (sx_require_paper : DSp) : XTS :=
  (xSeq (xDrop (xCall sx_require_paper (xPa (dCons (dIsi "tuple" (dVar 0)) (dCons (dC (.str "shape")) (dCons (dNeg (dC (.int 1))) dNil))))))
  (xSeq (xFor (iEnT (dVar 0)) (gTp 2 (gsCons (gNm 1) (gsCons (gNm 2) gsNil)))
  (xDrop (xCall sx_require_paper (xPa (dCons (dCall sp_is_sign (dCons (dVar 2) dNil)) (dCons (dC (.str "sign")) (dCons (dVar 1) dNil)))))))
  (xPs (dRet (dCB rLen (dCons (dVar 0) dNil))))))

def r_law_feed : DTS :=
  (dRet (dDisp [((dC (.str "cells")), (dFrz (dCB rLstC (dCons (dFrz (dSl (dVar 0) dNoP (dP (dC (.int 63))))) dNil)))), ((dC (.str "at")), (dC (.int 0))), ((dC (.str "left")), (dC (.int 0))), ((dC (.str "count")), (dC (.int 0)))]))

def r_law_draw : DTS :=
  (dSeq (dAsg (dOp rAdd (dDGet (dVar 0) (dC (.str "count"))) (dC (.int 1))) (gSb (dVar 0) (dC (.str "count")) sDct))
  (dSeq (dIfS (dTst (dOp rGt (dDGet (dVar 0) (dC (.str "left"))) (dC (.int 0))))
  (dSeq (dAsg (dOp rMod (dCB rIntC (dCons (dDGet (dVar 0) (dC (.str "left"))) dNil)) (dVar 1)) (gNm 2))
  (dSeq (dAsg (dOp rFdiv (dDGet (dVar 0) (dC (.str "left"))) (dVar 1)) (gSb (dVar 0) (dC (.str "left")) sDct))
  (dRet (dVar 2))))
  dNext)
  (dSeq (dAsg (dDGet (dVar 0) (dC (.str "at"))) (gNm 3))
  (dSeq (dAsg (dOp rAdd (dVar 3) (dC (.int 1))) (gSb (dVar 0) (dC (.str "at")) sDct))
  (dSeq (dAsg (dIf (dTst (dOp rNev (dDGet (dVar 0) (dC (.str "cells"))) (dFrz (dLst dNil)))) (dOp rIx (dDGet (dVar 0) (dC (.str "cells"))) (dOp rMod (dCB rIntC (dCons (dVar 3) dNil)) (dCB rLen (dCons (dDGet (dVar 0) (dC (.str "cells"))) dNil)))) (dC (.int 53))) (gNm 4))
  (dSeq (dIfS (dAnd (dTst (dOp rGe (dVar 4) (dOp rPow (dC (.int 10)) (dC (.int 18))))) (dTst (dOp rLt (dVar 3) (dCB rLen (dCons (dDGet (dVar 0) (dC (.str "cells"))) dNil)))))
  (dSeq (dAsg (dOp rFdiv (dVar 4) (dVar 1)) (gSb (dVar 0) (dC (.str "left")) sDct))
  (dRet (dOp rMod (dCB rIntC (dCons (dVar 4) dNil)) (dVar 1))))
  dNext)
  (dSeq (dAsg (dOp rMod (dCB rIntC (dCons (dOp rAdd (dOp rAdd (dOp rMod (dCB rIntC (dCons (dVar 4) dNil)) (dC (.int 1000000487))) (dOp rMul (dC (.int 240007)) (dDGet (dVar 0) (dC (.str "count"))))) (dC (.int 103))) dNil)) (dC (.int 2147482937))) (gNm 5))
  (dSeq (dAsg (dOp rMod (dCB rIntC (dCons (dOp rAdd (dOp rAdd (dOp rMul (dVar 5) (dVar 5)) (dOp rMul (dC (.int 5300003)) (dDGet (dVar 0) (dC (.str "count"))))) (dC (.int 61))) dNil)) (dC (.int 2147482921))) (gNm 5))
  (dRet (dOp rMod (dCB rIntC (dCons (dOp rFdiv (dOp rMod (dCB rIntC (dCons (dOp rAdd (dOp rMul (dVar 5) (dVar 5)) (dOp rMul (dC (.int 107)) (dVar 5))) dNil)) (dC (.int 2147482859))) (dC (.int 16))) dNil)) (dVar 1)))))))))))

def r_law_sign (sp_law_sign : DSp) (sp_law_draw : DSp) : DTS :=
  (dSeq (dAsg (dCall sp_law_draw (dCons (dVar 0) (dCons (dIf (dTst (dOp rGt (dVar 1) (dC (.int 0)))) (dC (.int 9)) (dC (.int 7))) dNil))) (gNm 2))
  (dSeq (dIfS (dTst (dOp rLt (dVar 2) (dC (.int 4))))
  (dRet (dOp rIx (dFrz (dLst (dCons (dC (.str "tick")) (dCons (dC (.str "tick")) (dCons (dC (.str "more")) (dCons (dC (.str "end")) dNil)))))) (dVar 2)))
  dNext)
  (dSeq (dIfS (dTst (dOp rLt (dVar 2) (dC (.int 7))))
  (dSeq (dAsg (dOp rIx (dFrz (dLst (dCons (dC (.int 0)) (dCons (dC (.int 1)) (dCons (dC (.int 2)) (dCons (dC (.int 9)) (dCons (dC (.int 255)) (dCons (dC (.int 256)) (dCons (dC (.int 70000)) dNil))))))))) (dCall sp_law_draw (dCons (dVar 0) (dCons (dC (.int 7)) dNil)))) (gNm 3))
  (dRet (dTup (dCons (dOp rIx (dFrz (dLst (dCons (dC (.str "many")) (dCons (dC (.str "way")) dNil)))) (dOp rMod (dCB rIntC (dCons (dVar 2) dNil)) (dC (.int 2)))) (dCons (dVar 3) dNil)))))
  dNext)
  (dRet (dTup (dCons (dOp rIx (dFrz (dLst (dCons (dC (.str "left")) (dCons (dC (.str "right")) dNil)))) (dOp rSub (dVar 2) (dC (.int 7)))) (dCons (dCall sp_law_sign (dCons (dVar 0) (dCons (dOp rSub (dVar 1) (dC (.int 1))) dNil))) dNil)))))))

def r_law_signs (sp_law_draw : DSp) (sp_law_sign : DSp) : DTS :=
  (dSeq (dAsg (dLst dNil) (gNm 2))
  (dSeq (dFor (iRg1 (dCons (dCall sp_law_draw (dCons (dVar 0) (dCons (dOp rAdd (dVar 1) (dC (.int 1))) dNil))) dNil)) (gNm 3)
  (dSeq (dDrop (dMt mAppend (dVar 2) (dCons (dCall sp_law_sign (dCons (dVar 0) (dCons (dC (.int 3)) dNil))) dNil)))
  (dIfS (dTst (dOp rEqv (dCall sp_law_draw (dCons (dVar 0) (dCons (dC (.int 4)) dNil))) (dC (.int 0))))
  (dDrop (dMt mAppend (dVar 2) (dCons (dOp rIx (dVar 2) (dCall sp_law_draw (dCons (dVar 0) (dCons (dCB rLen (dCons (dVar 2) dNil)) dNil)))) dNil)))
  dNext)))
  (dRet (dCB rTupC (dCons (dFrz (dSl (dVar 2) dNoP (dP (dVar 1)))) dNil)))))

def r_law_heard (α : Dl.Act) : DTS :=
  (dTry CT "BarError" 1 (xRet (xTup (xCons (xPe (dC (.str "told"))) (xCons (xAct 0 α) (xPa dNil))))) (fun a c d =>
  (dSeq (dAsg (dLst (dCons (dIsX CT a c d (dVar 1) "PaperError") (dCons (dIsX CT a c d (dVar 1) "WorkError") dNil))) (gNm 2))
  (dSeq (dDrop (dMt mExtend (dVar 2) (dCons (dFrz (dLst (dCons (dIsX CT a c d (dVar 1) "LiveError") (dCons (dIsX CT a c d (dVar 1) "TextError") dNil)))) dNil)))
  (dSeq (dIfS (dAnd (dTst (dOp rEqv (dVar 2) (dFrz (dLst (dCons (dC (.bl true)) (dCons (dC (.bl false)) (dCons (dC (.bl false)) (dCons (dC (.bl false)) dNil)))))))) (dTru (dIsX CT a c d (dVar 1) "InvalidPaper")))
  (dRet (dTup (dCons (dC (.str "paper")) (dCons (dExf CT a c d (dVar 1) "word") (dCons (dExf CT a c d (dVar 1) "at") dNil)))))
  dNext)
  (dSeq (dIfS (dTst (dOp rEqv (dVar 2) (dFrz (dLst (dCons (dC (.bl false)) (dCons (dC (.bl false)) (dCons (dC (.bl false)) (dCons (dC (.bl true)) dNil))))))))
  (dSeq (dAsg (dAndV (dIsX CT a c d (dVar 1) "InvalidText") (dNotV (dIsX CT a c d (dVar 1) "InvalidRow"))) (gNm 3))
  (dRet (dIf (dTru (dVar 3)) (dTup (dCons (dC (.str "text")) (dCons (dExf CT a c d (dVar 1) "line") (dCons (dExf CT a c d (dVar 1) "field") dNil)))) (dTup (dCons (dC (.str "odd")) dNil)))))
  dNext)
  (dSeq (dIfS (dOr (dTst (dOp rNev (dVar 2) (dFrz (dLst (dCons (dC (.bl false)) (dCons (dC (.bl true)) (dCons (dC (.bl false)) (dCons (dC (.bl false)) dNil)))))))) (dTru (dIsX CT a c d (dVar 1) "NotNext")))
  (dRet (dTup (dCons (dC (.str "odd")) dNil)))
  dNext)
  (dRet (dIf (dTru (dIsX CT a c d (dVar 1) "NotUsable")) (dTup (dCons (dC (.str "use")) (dCons (dExf CT a c d (dVar 1) "word") (dCons (dExf CT a c d (dVar 1) "at") dNil)))) (dTup (dCons (dC (.str "odd")) dNil)))))))))))

def r_law_order_right (sp_is_ahead : DSp) : DTS :=
  (dSeq (dFor (iSq (dVar 0)) (gNm 1)
  (dFor (iSq (dVar 0)) (gNm 2)
  (dSeq (dAsg (dFrz (dLst (dCons (dCall sp_is_ahead (dCons (dVar 1) (dCons (dVar 2) dNil))) (dCons (dCall sp_is_ahead (dCons (dVar 2) (dCons (dVar 1) dNil))) dNil)))) (gNm 3))
  (dSeq (dIfS (dOr (dTst (dOp rNev (dOp rEqv (dVar 1) (dVar 2)) (dOp rEqv (dVar 3) (dFrz (dLst (dCons (dC (.bl false)) (dCons (dC (.bl false)) dNil))))))) (dTst (dOp rEqv (dVar 3) (dFrz (dLst (dCons (dC (.bl true)) (dCons (dC (.bl true)) dNil)))))))
  (dRet (dC (.bl false)))
  dNext)
  (dSeq (dIfS (dAnd (dTst (dOp rGt (dCB rLen (dCons (dVar 2) dNil)) (dCB rLen (dCons (dVar 1) dNil)))) (dAnd (dTst (dOp rEqv (dSl (dVar 2) dNoP (dP (dCB rLen (dCons (dVar 1) dNil)))) (dVar 1))) (dNot (dTru (dOp rIx (dVar 3) (dC (.int 0)))))))
  (dRet (dC (.bl false)))
  dNext)
  (dSeq (dIfS (dTst (dOp rNev (dCall sp_is_ahead (dCons (dOp rAdd (dTup (dCons (dC (.str "end")) dNil)) (dVar 1)) (dCons (dOp rAdd (dTup (dCons (dC (.str "end")) dNil)) (dVar 2)) dNil))) (dOp rIx (dVar 3) (dC (.int 0)))))
  (dRet (dC (.bl false)))
  dNext)
  (dIfS (dTst (dOp rNev (dFrz (dLc (iSq (dVar 0)) (.one 4) (dAnd (dTru (dOp rIx (dVar 3) (dC (.int 0)))) (dAnd (dTru (dCall sp_is_ahead (dCons (dVar 2) (dCons (dVar 4) dNil)))) (dNot (dTru (dCall sp_is_ahead (dCons (dVar 1) (dCons (dVar 4) dNil))))))) (dVar 4) [4])) (dFrz (dLst dNil))))
  (dRet (dC (.bl false)))
  dNext)))))))
  (dRet (dC (.bl true))))

def r_law_sorted_right (sp_sorted_signs : DSp) (sp_is_ahead : DSp) : DTS :=
  (dSeq (dAsg (dCall sp_sorted_signs (dCons (dVar 0) dNil)) (gNm 1))
  (dSeq (dIfS (dOr (dTst (dOp rNev (dFrz (dLc (iSq (dVar 0)) (.one 2) (dTst (dOp (rInT not) (dVar 2) (dVar 1))) (dVar 2) [2])) (dFrz (dLst dNil)))) (dTst (dOp rNev (dFrz (dLc (iSq (dVar 1)) (.one 2) (dTst (dOp (rInT not) (dVar 2) (dVar 0))) (dVar 2) [2])) (dFrz (dLst dNil)))))
  (dRet (dC (.bl false)))
  dNext)
  (dSeq (dIfS (dTst (dOp rNev (dFrz (dLc (iRg2 (dCons (dC (.int 1)) (dCons (dCB rLen (dCons (dVar 1) dNil)) dNil))) (.one 3) (dNot (dTru (dCall sp_is_ahead (dCons (dSl (dVar 1) (dP (dOp rSub (dVar 3) (dC (.int 1)))) (dP (dVar 3))) (dCons (dSl (dVar 1) (dP (dVar 3)) (dP (dOp rAdd (dVar 3) (dC (.int 1))))) dNil))))) (dVar 3) [3])) (dFrz (dLst dNil))))
  (dRet (dC (.bl false)))
  dNext)
  (dSeq (dIfS (dOr (dTst (dOp rNev (dCall sp_sorted_signs (dCons (dVar 1) dNil)) (dVar 1))) (dOr (dTst (dOp rNev (dCall sp_sorted_signs (dCons (dRev (dVar 0)) dNil)) (dVar 1))) (dTst (dOp rNev (dCall sp_sorted_signs (dCons (dOp rMul (dVar 0) (dC (.int 2))) dNil)) (dVar 1)))))
  (dRet (dC (.bl false)))
  dNext)
  (dSeq (dAsg (dCall sp_sorted_signs (dCons (dOp rAdd (dVar 0) (dTup (dCons (dC (.str "more")) (dCons (dTup (dCons (dC (.str "right")) (dCons (dC (.str "tick")) dNil))) dNil)))) dNil)) (gNm 4))
  (dRet (dAndV (dOp rEqv (dFrz (dLc (iSq (dVar 1)) (.one 2) (dTst (dOp (rInT not) (dVar 2) (dVar 4))) (dVar 2) [2])) (dFrz (dLst dNil))) (dOp rLe (dCB rLen (dCons (dVar 4) dNil)) (dOp rAdd (dCB rLen (dCons (dVar 1) dNil)) (dC (.int 2)))))))))))

def r_law_bytes_right (Tb : Addr) (sp_packed : DSp) (sp_is_signs : DSp) (sp_unpacked : DSp) (sx_unpacked : DSp) : DTS :=
  (dSeq (dAsg (dTup (dCons (dCall sp_packed (dCons (dVar 0) dNil)) (dCons (dCall sp_packed (dCons (dVar 1) dNil)) dNil))) (gTp 2 (gsCons (gNm 2) (gsCons (gNm 3) gsNil))))
  (dSeq (dIfS (dOr (dTst (dOp rNev (dCall sp_unpacked (dCons (dVar 2) dNil)) (dVar 0))) (dOr (dTst (dOp (rCmpB not) (dCall sp_packed (dCons (dCall sp_unpacked (dCons (dVar 3) dNil)) dNil)) (dVar 3))) (dTst (dOp rNev (dCall sp_unpacked (dCons (dOp rAddB (dVar 2) (dVar 3)) dNil)) (dOp rAdd (dVar 0) (dVar 1))))))
  (dRet (dC (.bl false)))
  dNext)
  (dSeq (dIfS (dOr (dTst (dOp (rCmpB not) (dCall sp_packed (dCons (dOp rAdd (dVar 0) (dVar 1)) dNil)) (dOp rAddB (dVar 2) (dVar 3)))) (dTst (dOp rNev (dOp (rCmpB id) (dVar 2) (dVar 3)) (dOp rEqv (dVar 0) (dVar 1)))))
  (dRet (dC (.bl false)))
  dNext)
  (dSeq (dIfS (dOr (dTst (dOp rNev (dCB rLenB (dCons (dVar 2) dNil)) (dCB rSumC (dCons (dFrz (dLc (iSq (dVar 0)) (.one 4) dYes (dCB rLenB (dCons (dCall sp_packed (dCons (dTup (dCons (dVar 4) dNil)) dNil)) dNil)) [4])) dNil)))) (dNot (dTru (dCall sp_is_signs (dCons (dCall sp_unpacked (dCons (dVar 2) dNil)) dNil)))))
  (dRet (dC (.bl false)))
  dNext)
  (dSeq (dIfS (dTst (dOp rNev (dCB rLenB (dCons (dCall sp_packed (dCons (dOp rAdd (dTup (dCons (dTup (dCons (dC (.str "left")) (dCons (dTup (dCons (dC (.str "right")) (dCons (dC (.str "end")) dNil))) dNil))) dNil)) (dVar 0)) dNil)) dNil)) (dOp rAdd (dCB rLenB (dCons (dVar 2) dNil)) (dC (.int 3)))))
  (dRet (dC (.bl false)))
  dNext)
  (dSeq (dIfS (dTst (dOp rEqv (dVar 0) (dTup dNil)))
  (dRet (dC (.bl true)))
  dNext)
  (dSeq (dPar 5 6 (dCons (dHearL Tb "_law_bytes_right.<locals>.<lambda>" r_law_heard 4 (xCall sx_unpacked (xPa (dCons (dSlB (dVar 2) dNoP (dP (dNeg (dC (.int 1))))) dNil)))) (dCons (dOp rSub (dCB rLenB (dCons (dVar 2) dNil)) (dC (.int 1))) dNil)))
  (dSeq (dIfS (dTst (dOp rEqv (dOp rIx (dVar 5) (dC (.int 0))) (dC (.str "told"))))
  (dRet (dAndV (dOp rEqv (dOp rIx (dVar 5) (dC (.int 1))) (dSl (dVar 0) dNoP (dP (dNeg (dC (.int 1)))))) (dOp (rInT id) (dOp rIx (dVar 0) (dNeg (dC (.int 1)))) (dTup (dCons (dC (.str "tick")) (dCons (dC (.str "more")) (dCons (dC (.str "end")) dNil)))))))
  dNext)
  (dRet (dOp rEqv (dVar 5) (dTup (dCons (dC (.str "use")) (dCons (dC (.str "byte")) (dCons (dVar 6) dNil))))))))))))))

def r_law (sp_law_order_right : DSp) (sp_law_bytes_right : DSp) (sp_law_draw : DSp) (sp_law_sorted_right : DSp) (sp_is_sign : DSp) (sp_lets_signs : DSp) (sp_law_signs : DSp) (sp_law_feed : DSp) : DTS :=
  (dSeq (dAsg (dCall sp_law_feed (dCons (dVar 0) dNil)) (gNm 1))
  (dSeq (dAsg (dLst (dCons (dTup dNil) (dCons (dTup (dCons (dC (.str "tick")) dNil)) dNil))) (gNm 2))
  (dSeq (dFor (iRg1 (dCons (dC (.int 4)) dNil)) (gNm 3)
  (dSeq (dAsg (dCall sp_law_signs (dCons (dVar 1) (dCons (dC (.int 6)) dNil))) (gNm 4))
  (dDrop (dMt mExtend (dVar 2) (dCons (dFrz (dLst (dCons (dVar 4) (dCons (dSl (dVar 4) dNoP (dP (dC (.int 3)))) (dCons (dOp rAdd (dVar 4) (dTup (dCons (dC (.str "tick")) dNil))) dNil))))) dNil)))))
  (dSeq (dAsg (dSl (dVar 2) dNoP (dP (dC (.int 12)))) (gNm 2))
  (dSeq (dAsg (dCB rRepr (dCons (dVar 2) dNil)) (gNm 5))
  (dSeq (dFor (iSq (dVar 2)) (gNm 4)
  (dSeq (dIfS (dOr (dTst (dOp rNev (dCall sp_lets_signs (dCons (dVar 4) dNil)) (dCB rLen (dCons (dVar 4) dNil)))) (dTst (dOp rNev (dFrz (dLc (iSq (dVar 4)) (.one 6) (dNot (dTru (dCall sp_is_sign (dCons (dVar 6) dNil)))) (dVar 6) [6])) (dFrz (dLst dNil)))))
  (dRet (dC (.bl false)))
  dNext)
  (dIfS (dOr (dNot (dTru (dCall sp_law_sorted_right (dCons (dVar 4) dNil)))) (dNot (dTru (dCall sp_law_bytes_right (dCons (dVar 4) (dCons (dOp rIx (dVar 2) (dCall sp_law_draw (dCons (dVar 1) (dCons (dCB rLen (dCons (dVar 2) dNil)) dNil)))) dNil))))))
  (dRet (dC (.bl false)))
  dNext)))
  (dRet (dAndV (dCall sp_law_order_right (dCons (dVar 2) dNil)) (dOp rEqv (dCB rRepr (dCons (dVar 2) dNil)) (dVar 5))))))))))
end K13

namespace K05
open PySem L2 Dl
def r_is_integer : DTS :=
  (dRet (dAndV (dIsi "int" (dVar 0)) (dNotV (dIsi "bool" (dVar 0)))))

def r_is_number (sp_is_integer : DSp) : DTS :=
  (dRet (dAndV (dCall sp_is_integer (dCons (dVar 0) dNil)) (dOp rGe (dVar 0) (dC (.int 0)))))

def r_is_sided : DTS :=
  (dRet (dAndV (dIsi "tuple" (dVar 0)) (dAndV (dOp rEqv (dCB rLen (dCons (dVar 0) dNil)) (dC (.int 2))) (dAndV (dIsi "str" (dOp rIx (dVar 0) (dC (.int 0)))) (dOp (rInn id) (dOp rIx (dVar 0) (dC (.int 0))) (dC (.tup [(.str "left"), (.str "right")])))))))

def r_is_sign (sp_is_number : DSp) (sp_is_sided : DSp) : DTS :=
  (dSeq (dWhile (dTru (dCall sp_is_sided (dCons (dVar 0) dNil)))
  (dAsg (dOp rIx (dVar 0) (dC (.int 1))) (gNm 0)))
  (dSeq (dIfS (dTru (dIsi "str" (dVar 0)))
  (dRet (dOp (rInn id) (dVar 0) (dC (.tup [(.str "tick"), (.str "more"), (.str "end")]))))
  dNext)
  (dSeq (dIfS (dOr (dNot (dTru (dIsi "tuple" (dVar 0)))) (dOr (dTst (dOp rNev (dCB rLen (dCons (dVar 0) dNil)) (dC (.int 2)))) (dNot (dTru (dIsi "str" (dOp rIx (dVar 0) (dC (.int 0))))))))
  (dRet (dC (.bl false)))
  dNext)
  (dRet (dAndV (dOp (rInn id) (dOp rIx (dVar 0) (dC (.int 0))) (dC (.tup [(.str "many"), (.str "way")]))) (dCall sp_is_number (dCons (dOp rIx (dVar 0) (dC (.int 1))) dNil)))))))

def r_is_signs (sp_is_sign : DSp) : DTS :=
  (dRet (dAndV (dIsi "tuple" (dVar 0)) (dCB rAllC (dCons (dFrz (dLc (iSq (dVar 0)) (.one 1) dYes (dCall sp_is_sign (dCons (dVar 1) dNil)) [1])) dNil))))

def r_require_usable : XTS :=
  (xIfS (xPt (dNot (dTru (dVar 0))))
  (xRaise "NotUsable" ["word", "at"] (xPa (dCons (dVar 1) (dCons (dVar 2) dNil))))
  (xPs dNext))

def r_sign_rank (sp_is_sided : DSp) : DTS :=
  (dSeq (dAsg (dLst dNil) (gNm 1))
  (dSeq (dAsg (dVar 0) (gNm 2))
  (dSeq (dWhile (dTru (dCall sp_is_sided (dCons (dVar 2) dNil)))
  (dSeq (dDrop (dMt mAppend (dVar 1) (dCons (dOp rAdd (dOp rAdd (dCB rLen (dCons (dC (.tup [(.str "tick"), (.str "more"), (.str "end")])) dNil)) (dCB rLen (dCons (dC (.tup [(.str "many"), (.str "way")])) dNil))) (dIdxT ["left", "right"] (dOp rIx (dVar 2) (dC (.int 0))))) dNil)))
  (dAsg (dOp rIx (dVar 2) (dC (.int 1))) (gNm 2))))
  (dSeq (dIfS (dTru (dIsi "str" (dVar 2)))
  (dRet (dTup (dStar (dVar 1) (dCons (dIdxT ["tick", "more", "end"] (dVar 2)) dNil))))
  dNext)
  (dRet (dTup (dStar (dVar 1) (dCons (dOp rAdd (dCB rLen (dCons (dC (.tup [(.str "tick"), (.str "more"), (.str "end")])) dNil)) (dIdxT ["many", "way"] (dOp rIx (dVar 2) (dC (.int 0))))) (dCons (dOp rIx (dVar 2) (dC (.int 1))) dNil)))))))))

def r_signs_rank (sp_sign_rank : DSp) : DTS :=
  (dRet (dCB rTupC (dCons (dFrz (dLc (iSq (dVar 0)) (.one 1) dYes (dCall sp_sign_rank (dCons (dVar 1) dNil)) [1])) dNil)))

def r_in_sign_order (sp_sign_rank : DSp) : DTS :=
  (dSeq (dAsg (dFrz (dCB rSortT (dCons (dFrz (dLc (iSq (dVar 0)) (.one 2) dYes (dTup (dCons (dCall sp_sign_rank (dCons (dVar 2) dNil)) (dCons (dVar 2) dNil))) [2])) dNil))) (gNm 1))
  (dRet (dCB rTupC (dCons (dFrz (dLc (iSq (dVar 1)) (.tup [3, 2]) dYes (dVar 2) [3, 2])) dNil))))

def r_sorted_signs (sp_in_sign_order : DSp) (sp_is_signs : DSp) (sx_require_usable : DSp) : XTS :=
  (xSeq (xDrop (xCall sx_require_usable (xPa (dCons (dCall sp_is_signs (dCons (dVar 0) dNil)) (dCons (dC (.str "signs")) (dCons (dNeg (dC (.int 1))) dNil))))))
  (xPs (dRet (dCall sp_in_sign_order (dCons (dFrz (dUniq (iSq (dVar 0)) 1)) dNil)))))

def r_is_ahead (sp_signs_rank : DSp) (sp_is_signs : DSp) (sx_require_usable : DSp) : XTS :=
  (xSeq (xDrop (xCall sx_require_usable (xPa (dCons (dCall sp_is_signs (dCons (dVar 0) dNil)) (dCons (dC (.str "signs")) (dCons (dNeg (dC (.int 1))) dNil))))))
  (xSeq (xDrop (xCall sx_require_usable (xPa (dCons (dCall sp_is_signs (dCons (dVar 1) dNil)) (dCons (dC (.str "other")) (dCons (dNeg (dC (.int 1))) dNil))))))
  (xPs (dRet (dOp rLtT (dCall sp_signs_rank (dCons (dVar 0) dNil)) (dCall sp_signs_rank (dCons (dVar 1) dNil)))))))

def r_law_feed : DTS :=
  (dRet (dDisp [((dC (.str "cells")), (dFrz (dCB rLstC (dCons (dFrz (dSl (dVar 0) dNoP (dP (dC (.int 63))))) dNil)))), ((dC (.str "at")), (dC (.int 0))), ((dC (.str "left")), (dC (.int 0))), ((dC (.str "count")), (dC (.int 0)))]))

def r_law_draw : DTS :=
  (dSeq (dAsg (dOp rAdd (dDGet (dVar 0) (dC (.str "count"))) (dC (.int 1))) (gSb (dVar 0) (dC (.str "count")) sDct))
  (dSeq (dIfS (dTst (dOp rGt (dDGet (dVar 0) (dC (.str "left"))) (dC (.int 0))))
  (dSeq (dAsg (dOp rMod (dCB rIntC (dCons (dDGet (dVar 0) (dC (.str "left"))) dNil)) (dVar 1)) (gNm 2))
  (dSeq (dAsg (dOp rFdiv (dDGet (dVar 0) (dC (.str "left"))) (dVar 1)) (gSb (dVar 0) (dC (.str "left")) sDct))
  (dRet (dVar 2))))
  dNext)
  (dSeq (dAsg (dDGet (dVar 0) (dC (.str "at"))) (gNm 3))
  (dSeq (dAsg (dOp rAdd (dVar 3) (dC (.int 1))) (gSb (dVar 0) (dC (.str "at")) sDct))
  (dSeq (dAsg (dIf (dTst (dOp rNev (dDGet (dVar 0) (dC (.str "cells"))) (dFrz (dLst dNil)))) (dOp rIx (dDGet (dVar 0) (dC (.str "cells"))) (dOp rMod (dCB rIntC (dCons (dVar 3) dNil)) (dCB rLen (dCons (dDGet (dVar 0) (dC (.str "cells"))) dNil)))) (dC (.int 53))) (gNm 4))
  (dSeq (dIfS (dAnd (dTst (dOp rGe (dVar 4) (dOp rPow (dC (.int 10)) (dC (.int 18))))) (dTst (dOp rLt (dVar 3) (dCB rLen (dCons (dDGet (dVar 0) (dC (.str "cells"))) dNil)))))
  (dSeq (dAsg (dOp rFdiv (dVar 4) (dVar 1)) (gSb (dVar 0) (dC (.str "left")) sDct))
  (dRet (dOp rMod (dCB rIntC (dCons (dVar 4) dNil)) (dVar 1))))
  dNext)
  (dSeq (dAsg (dOp rMod (dCB rIntC (dCons (dOp rAdd (dOp rAdd (dOp rMod (dCB rIntC (dCons (dVar 4) dNil)) (dC (.int 1000000487))) (dOp rMul (dC (.int 240007)) (dDGet (dVar 0) (dC (.str "count"))))) (dC (.int 103))) dNil)) (dC (.int 2147482937))) (gNm 5))
  (dSeq (dAsg (dOp rMod (dCB rIntC (dCons (dOp rAdd (dOp rAdd (dOp rMul (dVar 5) (dVar 5)) (dOp rMul (dC (.int 5300003)) (dDGet (dVar 0) (dC (.str "count"))))) (dC (.int 61))) dNil)) (dC (.int 2147482921))) (gNm 5))
  (dRet (dOp rMod (dCB rIntC (dCons (dOp rFdiv (dOp rMod (dCB rIntC (dCons (dOp rAdd (dOp rMul (dVar 5) (dVar 5)) (dOp rMul (dC (.int 107)) (dVar 5))) dNil)) (dC (.int 2147482859))) (dC (.int 16))) dNil)) (dVar 1)))))))))))

def r_law_sign (sp_law_sign : DSp) (sp_law_draw : DSp) : DTS :=
  (dSeq (dAsg (dCall sp_law_draw (dCons (dVar 0) (dCons (dIf (dTst (dOp rGt (dVar 1) (dC (.int 0)))) (dC (.int 9)) (dC (.int 7))) dNil))) (gNm 2))
  (dSeq (dIfS (dTst (dOp rLt (dVar 2) (dC (.int 4))))
  (dRet (dOp rIx (dFrz (dLst (dCons (dC (.str "tick")) (dCons (dC (.str "tick")) (dCons (dC (.str "more")) (dCons (dC (.str "end")) dNil)))))) (dVar 2)))
  dNext)
  (dSeq (dIfS (dTst (dOp rLt (dVar 2) (dC (.int 7))))
  (dSeq (dAsg (dOp rIx (dFrz (dLst (dCons (dC (.int 0)) (dCons (dC (.int 1)) (dCons (dC (.int 2)) (dCons (dC (.int 9)) (dCons (dC (.int 255)) (dCons (dC (.int 256)) (dCons (dC (.int 70000)) dNil))))))))) (dCall sp_law_draw (dCons (dVar 0) (dCons (dC (.int 7)) dNil)))) (gNm 3))
  (dRet (dTup (dCons (dOp rIx (dFrz (dLst (dCons (dC (.str "many")) (dCons (dC (.str "way")) dNil)))) (dOp rMod (dCB rIntC (dCons (dVar 2) dNil)) (dC (.int 2)))) (dCons (dVar 3) dNil)))))
  dNext)
  (dRet (dTup (dCons (dOp rIx (dFrz (dLst (dCons (dC (.str "left")) (dCons (dC (.str "right")) dNil)))) (dOp rSub (dVar 2) (dC (.int 7)))) (dCons (dCall sp_law_sign (dCons (dVar 0) (dCons (dOp rSub (dVar 1) (dC (.int 1))) dNil))) dNil)))))))

def r_law_signs (sp_law_draw : DSp) (sp_law_sign : DSp) : DTS :=
  (dSeq (dAsg (dLst dNil) (gNm 2))
  (dSeq (dFor (iRg1 (dCons (dCall sp_law_draw (dCons (dVar 0) (dCons (dOp rAdd (dVar 1) (dC (.int 1))) dNil))) dNil)) (gNm 3)
  (dSeq (dDrop (dMt mAppend (dVar 2) (dCons (dCall sp_law_sign (dCons (dVar 0) (dCons (dC (.int 3)) dNil))) dNil)))
  (dIfS (dTst (dOp rEqv (dCall sp_law_draw (dCons (dVar 0) (dCons (dC (.int 4)) dNil))) (dC (.int 0))))
  (dDrop (dMt mAppend (dVar 2) (dCons (dOp rIx (dVar 2) (dCall sp_law_draw (dCons (dVar 0) (dCons (dCB rLen (dCons (dVar 2) dNil)) dNil)))) dNil)))
  dNext)))
  (dRet (dCB rTupC (dCons (dFrz (dSl (dVar 2) dNoP (dP (dVar 1)))) dNil)))))

end K05

namespace K06
open PySem L2 Dl
abbrev CT : CTab := [("BarError", ["BarError"], []), ("PaperError", ["PaperError", "BarError"], []), ("WorkError", ["WorkError", "BarError"], []), ("LiveError", ["LiveError", "BarError"], []), ("TextError", ["TextError", "BarError"], []), ("InvalidPaper", ["InvalidPaper", "PaperError", "BarError"], ["word", "at"]), ("NotUsable", ["NotUsable", "WorkError", "BarError"], ["word", "at"]), ("NotNext", ["NotNext", "WorkError", "BarError"], ["sign", "at"]), ("InvalidText", ["InvalidText", "TextError", "BarError"], ["line", "field"]), ("InvalidRow", ["InvalidRow", "TextError", "BarError"], ["row"])]

def r_number_codes : DTS :=
  (dSeq (dAsg (dLst dNil) (gNm 1))
  (dSeq (dAsg (dVar 0) (gNm 2))
  (dSeq (dWhile (dTst (dOp rGt (dVar 2) (dC (.int 0))))
  (dSeq (dDrop (dMt mAppend (dVar 1) (dCons (dOp rMod (dCB rIntC (dCons (dVar 2) dNil)) (dC (.int 256))) dNil)))
  (dAsg (dOp rFdiv (dVar 2) (dC (.int 256))) (gNm 2))))
  (dRet (dFrz (dLst (dCons (dCB rLen (dCons (dVar 1) dNil)) (dStar (dFrz (dRev (dVar 1))) dNil))))))))

def r_sign_codes (sp_number_codes : DSp) (sp_is_sided : DSp) : DTS :=
  (dSeq (dAsg (dLst dNil) (gNm 1))
  (dSeq (dAsg (dVar 0) (gNm 2))
  (dSeq (dWhile (dTru (dCall sp_is_sided (dCons (dVar 2) dNil)))
  (dSeq (dDrop (dMt mAppend (dVar 1) (dCons (dOp rAdd (dC (.int 5)) (dIdxT ["left", "right"] (dOp rIx (dVar 2) (dC (.int 0))))) dNil)))
  (dAsg (dOp rIx (dVar 2) (dC (.int 1))) (gNm 2))))
  (dSeq (dIfS (dTru (dIsi "str" (dVar 2)))
  (dRet (dFrz (dLst (dStar (dVar 1) (dCons (dIdxT ["tick", "more", "end"] (dVar 2)) dNil)))))
  dNext)
  (dRet (dFrz (dLst (dStar (dVar 1) (dCons (dOp rAdd (dC (.int 3)) (dIdxT ["many", "way"] (dOp rIx (dVar 2) (dC (.int 0))))) (dStar (dCall sp_number_codes (dCons (dOp rIx (dVar 2) (dC (.int 1))) dNil)) dNil))))))))))

def r_packed (sp_sign_codes : DSp) (sp_is_signs : DSp) (sx_require_usable : DSp) : XTS :=
  (xSeq (xDrop (xCall sx_require_usable (xPa (dCons (dCall sp_is_signs (dCons (dVar 0) dNil)) (dCons (dC (.str "signs")) (dCons (dNeg (dC (.int 1))) dNil))))))
  (xSeq (xPs (dAsg (dLst dNil) (gNm 1)))
  (xSeq (xFor (iSq (dVar 0)) (gNm 2)
  (xPs (dDrop (dMt mExtend (dVar 1) (dCons (dCall sp_sign_codes (dCons (dVar 2) dNil)) dNil)))))
  (xPs (dRet (dCB rBytC (dCons (dVar 1) dNil)))))))

def r_ByteReader___init__ : DTS :=
  (dSeq (dAsg (dVar 1) (gFld "ByteReader" "own_data" (dVar 0)))
  (dAsg (dC (.int 0)) (gFld "ByteReader" "spot" (dVar 0))))

def r_ByteReader_has_more : DTS :=
  (dRet (dOp rLt (dFld "ByteReader" "spot" (dVar 0)) (dCB rLenB (dCons (dFld "ByteReader" "own_data" (dVar 0)) dNil))))

def r_ByteReader_take_byte (sx_require_usable : DSp) (sp_ByteReader_has_more : DSp) : XTS :=
  (xSeq (xDrop (xCall sx_require_usable (xPa (dCons (dAndV (dMeth "ByteReader" "has_more" sp_ByteReader_has_more (dVar 0) dNil) (dChain rLe rLt (dVar 1) (dOp rIxB (dFld "ByteReader" "own_data" (dVar 0)) (dFld "ByteReader" "spot" (dVar 0))) (dVar 2))) (dCons (dC (.str "byte")) (dCons (dFld "ByteReader" "spot" (dVar 0)) dNil))))))
  (xSeq (xPs (dFAug "ByteReader" "spot" (dVar 0) (dC (.int 1))))
  (xPs (dRet (dOp rIxB (dFld "ByteReader" "own_data" (dVar 0)) (dOp rSub (dFld "ByteReader" "spot" (dVar 0)) (dC (.int 1))))))))

def r_ByteReader_take_digits (sx_ByteReader_take_byte : DSp) : XTS :=
  (xSeq (xAsg (xMethY "ByteReader" "take_byte" sx_ByteReader_take_byte 3 (dVar 0) (dCons (dC (.int 0)) (dCons (dC (.int 256)) dNil))) (gNm 1))
  (xSeq (xPs (dAsg (dC (.int 0)) (gNm 2)))
  (xSeq (xFor (iRg1 (dCons (dVar 1) dNil)) (gNm 3)
  (xAsg (xOp rAdd (xPe (dOp rMul (dVar 2) (dC (.int 256)))) (xMethY "ByteReader" "take_byte" sx_ByteReader_take_byte 3 (dVar 0) (dCons (dIf (dTst (dOp rEqv (dVar 3) (dC (.int 0)))) (dC (.int 1)) (dC (.int 0))) (dCons (dC (.int 256)) dNil)))) (gNm 2)))
  (xPs (dRet (dVar 2))))))

def r_ByteReader_take_sign (sx_ByteReader_take_digits : DSp) (sx_ByteReader_take_byte : DSp) : XTS :=
  (xSeq (xPs (dAsg (dLst dNil) (gNm 1)))
  (xSeq (xAsg (xMethY "ByteReader" "take_byte" sx_ByteReader_take_byte 3 (dVar 0) (dCons (dC (.int 0)) (dCons (dC (.int 7)) dNil))) (gNm 2))
  (xSeq (xWhile (xPt (dTst (dOp rGe (dVar 2) (dC (.int 5)))))
  (xSeq (xPs (dDrop (dMt mAppend (dVar 1) (dCons (dOp rIx (dC (.tup [(.str "left"), (.str "right")])) (dOp rSub (dVar 2) (dC (.int 5)))) dNil))))
  (xAsg (xMethY "ByteReader" "take_byte" sx_ByteReader_take_byte 3 (dVar 0) (dCons (dC (.int 0)) (dCons (dIf (dTst (dOp rLt (dCB rLen (dCons (dVar 1) dNil)) (dC (.int 29)))) (dC (.int 7)) (dC (.int 5))) dNil))) (gNm 2))))
  (xSeq (xIfS (xPt (dTst (dOp rLt (dVar 2) (dC (.int 3)))))
  (xPs (dAsg (dOp rIx (dC (.tup [(.str "tick"), (.str "more"), (.str "end")])) (dVar 2)) (gNm 3)))
  (xAsg (xTup (xCons (xPe (dOp rIx (dC (.tup [(.str "many"), (.str "way")])) (dOp rSub (dVar 2) (dC (.int 3))))) (xCons (xMethY "ByteReader" "take_digits" sx_ByteReader_take_digits 1 (dVar 0) dNil) (xPa dNil)))) (gNm 3)))
  (xSeq (xFor (iSq (dFrz (dRev (dVar 1)))) (gNm 4)
  (xPs (dAsg (dTup (dCons (dVar 4) (dCons (dVar 3) dNil))) (gNm 3))))
  (xPs (dRet (dVar 3))))))))

def r_unpacked (sx_require_usable : DSp) (sp_ByteReader_has_more : DSp) (sx_ByteReader_take_sign : DSp) (sp_ByteReader___init__ : DSp) : XTS :=
  (xSeq (xDrop (xCall sx_require_usable (xPa (dCons (dIsi "bytes" (dVar 0)) (dCons (dC (.str "data")) (dCons (dNeg (dC (.int 1))) dNil))))))
  (xSeq (xPs (dAsg (dMake "ByteReader" sp_ByteReader___init__ (dCons (dVar 0) dNil)) (gNm 1)))
  (xSeq (xPs (dAsg (dLst dNil) (gNm 2)))
  (xSeq (xWhile (xPt (dTru (dMeth "ByteReader" "has_more" sp_ByteReader_has_more (dVar 1) dNil)))
  (xDrop (xApp (dVar 2) (xMethY "ByteReader" "take_sign" sx_ByteReader_take_sign 1 (dVar 1) dNil))))
  (xPs (dRet (dCB rTupC (dCons (dVar 2) dNil))))))))

def r_law_sign (sp_law_sign : DSp) (sp_law_draw : DSp) : DTS :=
  (dSeq (dAsg (dCall sp_law_draw (dCons (dVar 0) (dCons (dIf (dTst (dOp rGt (dVar 1) (dC (.int 0)))) (dC (.int 9)) (dC (.int 7))) dNil))) (gNm 2))
  (dSeq (dIfS (dTst (dOp rLt (dVar 2) (dC (.int 4))))
  (dRet (dOp rIx (dFrz (dLst (dCons (dC (.str "tick")) (dCons (dC (.str "tick")) (dCons (dC (.str "more")) (dCons (dC (.str "end")) dNil)))))) (dVar 2)))
  dNext)
  (dSeq (dIfS (dTst (dOp rLt (dVar 2) (dC (.int 7))))
  (dSeq (dAsg (dOp rIx (dFrz (dLst (dCons (dC (.int 0)) (dCons (dC (.int 1)) (dCons (dC (.int 2)) (dCons (dC (.int 9)) (dCons (dC (.int 255)) (dCons (dC (.int 256)) (dCons (dC (.int 70000)) dNil))))))))) (dCall sp_law_draw (dCons (dVar 0) (dCons (dC (.int 7)) dNil)))) (gNm 3))
  (dRet (dTup (dCons (dOp rIx (dFrz (dLst (dCons (dC (.str "many")) (dCons (dC (.str "way")) dNil)))) (dOp rMod (dCB rIntC (dCons (dVar 2) dNil)) (dC (.int 2)))) (dCons (dVar 3) dNil)))))
  dNext)
  (dRet (dTup (dCons (dOp rIx (dFrz (dLst (dCons (dC (.str "left")) (dCons (dC (.str "right")) dNil)))) (dOp rSub (dVar 2) (dC (.int 7)))) (dCons (dCall sp_law_sign (dCons (dVar 0) (dCons (dOp rSub (dVar 1) (dC (.int 1))) dNil))) dNil)))))))

def r_law_signs (sp_law_draw : DSp) (sp_law_sign : DSp) : DTS :=
  (dSeq (dAsg (dLst dNil) (gNm 2))
  (dSeq (dFor (iRg1 (dCons (dCall sp_law_draw (dCons (dVar 0) (dCons (dOp rAdd (dVar 1) (dC (.int 1))) dNil))) dNil)) (gNm 3)
  (dSeq (dDrop (dMt mAppend (dVar 2) (dCons (dCall sp_law_sign (dCons (dVar 0) (dCons (dC (.int 3)) dNil))) dNil)))
  (dIfS (dTst (dOp rEqv (dCall sp_law_draw (dCons (dVar 0) (dCons (dC (.int 4)) dNil))) (dC (.int 0))))
  (dDrop (dMt mAppend (dVar 2) (dCons (dOp rIx (dVar 2) (dCall sp_law_draw (dCons (dVar 0) (dCons (dCB rLen (dCons (dVar 2) dNil)) dNil)))) dNil)))
  dNext)))
  (dRet (dCB rTupC (dCons (dFrz (dSl (dVar 2) dNoP (dP (dVar 1)))) dNil)))))

def r_law_heard (α : Dl.Act) : DTS :=
  (dTry CT "BarError" 1 (xRet (xTup (xCons (xPe (dC (.str "told"))) (xCons (xAct 0 α) (xPa dNil))))) (fun a c d =>
  (dSeq (dAsg (dLst (dCons (dIsX CT a c d (dVar 1) "PaperError") (dCons (dIsX CT a c d (dVar 1) "WorkError") dNil))) (gNm 2))
  (dSeq (dDrop (dMt mExtend (dVar 2) (dCons (dFrz (dLst (dCons (dIsX CT a c d (dVar 1) "LiveError") (dCons (dIsX CT a c d (dVar 1) "TextError") dNil)))) dNil)))
  (dSeq (dIfS (dAnd (dTst (dOp rEqv (dVar 2) (dFrz (dLst (dCons (dC (.bl true)) (dCons (dC (.bl false)) (dCons (dC (.bl false)) (dCons (dC (.bl false)) dNil)))))))) (dTru (dIsX CT a c d (dVar 1) "InvalidPaper")))
  (dRet (dTup (dCons (dC (.str "paper")) (dCons (dExf CT a c d (dVar 1) "word") (dCons (dExf CT a c d (dVar 1) "at") dNil)))))
  dNext)
  (dSeq (dIfS (dTst (dOp rEqv (dVar 2) (dFrz (dLst (dCons (dC (.bl false)) (dCons (dC (.bl false)) (dCons (dC (.bl false)) (dCons (dC (.bl true)) dNil))))))))
  (dSeq (dAsg (dAndV (dIsX CT a c d (dVar 1) "InvalidText") (dNotV (dIsX CT a c d (dVar 1) "InvalidRow"))) (gNm 3))
  (dRet (dIf (dTru (dVar 3)) (dTup (dCons (dC (.str "text")) (dCons (dExf CT a c d (dVar 1) "line") (dCons (dExf CT a c d (dVar 1) "field") dNil)))) (dTup (dCons (dC (.str "odd")) dNil)))))
  dNext)
  (dSeq (dIfS (dOr (dTst (dOp rNev (dVar 2) (dFrz (dLst (dCons (dC (.bl false)) (dCons (dC (.bl true)) (dCons (dC (.bl false)) (dCons (dC (.bl false)) dNil)))))))) (dTru (dIsX CT a c d (dVar 1) "NotNext")))
  (dRet (dTup (dCons (dC (.str "odd")) dNil)))
  dNext)
  (dRet (dIf (dTru (dIsX CT a c d (dVar 1) "NotUsable")) (dTup (dCons (dC (.str "use")) (dCons (dExf CT a c d (dVar 1) "word") (dCons (dExf CT a c d (dVar 1) "at") dNil)))) (dTup (dCons (dC (.str "odd")) dNil)))))))))))

end K06

namespace K03
open PySem L2 Dl
abbrev CT : CTab := [("BarError", ["BarError"], []), ("PaperError", ["PaperError", "BarError"], []), ("WorkError", ["WorkError", "BarError"], []), ("LiveError", ["LiveError", "BarError"], []), ("TextError", ["TextError", "BarError"], []), ("InvalidPaper", ["InvalidPaper", "PaperError", "BarError"], ["word", "at"]), ("NotUsable", ["NotUsable", "WorkError", "BarError"], ["word", "at"]), ("NotNext", ["NotNext", "WorkError", "BarError"], ["sign", "at"]), ("InvalidText", ["InvalidText", "TextError", "BarError"], ["line", "field"]), ("InvalidRow", ["InvalidRow", "TextError", "BarError"], ["row"])]

def r_require_usable : XTS :=
  (xIfS (xPt (dNot (dTru (dVar 0))))
  (xRaise "NotUsable" ["word", "at"] (xPa (dCons (dVar 1) (dCons (dVar 2) dNil))))
  (xPs dNext))

def r_law_feed : DTS :=
  (dRet (dDisp [((dC (.str "cells")), (dFrz (dCB rLstC (dCons (dFrz (dSl (dVar 0) dNoP (dP (dC (.int 63))))) dNil)))), ((dC (.str "at")), (dC (.int 0))), ((dC (.str "left")), (dC (.int 0))), ((dC (.str "count")), (dC (.int 0)))]))

def r_law_draw : DTS :=
  (dSeq (dAsg (dOp rAdd (dDGet (dVar 0) (dC (.str "count"))) (dC (.int 1))) (gSb (dVar 0) (dC (.str "count")) sDct))
  (dSeq (dIfS (dTst (dOp rGt (dDGet (dVar 0) (dC (.str "left"))) (dC (.int 0))))
  (dSeq (dAsg (dOp rMod (dCB rIntC (dCons (dDGet (dVar 0) (dC (.str "left"))) dNil)) (dVar 1)) (gNm 2))
  (dSeq (dAsg (dOp rFdiv (dDGet (dVar 0) (dC (.str "left"))) (dVar 1)) (gSb (dVar 0) (dC (.str "left")) sDct))
  (dRet (dVar 2))))
  dNext)
  (dSeq (dAsg (dDGet (dVar 0) (dC (.str "at"))) (gNm 3))
  (dSeq (dAsg (dOp rAdd (dVar 3) (dC (.int 1))) (gSb (dVar 0) (dC (.str "at")) sDct))
  (dSeq (dAsg (dIf (dTst (dOp rNev (dDGet (dVar 0) (dC (.str "cells"))) (dFrz (dLst dNil)))) (dOp rIx (dDGet (dVar 0) (dC (.str "cells"))) (dOp rMod (dCB rIntC (dCons (dVar 3) dNil)) (dCB rLen (dCons (dDGet (dVar 0) (dC (.str "cells"))) dNil)))) (dC (.int 53))) (gNm 4))
  (dSeq (dIfS (dAnd (dTst (dOp rGe (dVar 4) (dOp rPow (dC (.int 10)) (dC (.int 18))))) (dTst (dOp rLt (dVar 3) (dCB rLen (dCons (dDGet (dVar 0) (dC (.str "cells"))) dNil)))))
  (dSeq (dAsg (dOp rFdiv (dVar 4) (dVar 1)) (gSb (dVar 0) (dC (.str "left")) sDct))
  (dRet (dOp rMod (dCB rIntC (dCons (dVar 4) dNil)) (dVar 1))))
  dNext)
  (dSeq (dAsg (dOp rMod (dCB rIntC (dCons (dOp rAdd (dOp rAdd (dOp rMod (dCB rIntC (dCons (dVar 4) dNil)) (dC (.int 1000000487))) (dOp rMul (dC (.int 240007)) (dDGet (dVar 0) (dC (.str "count"))))) (dC (.int 103))) dNil)) (dC (.int 2147482937))) (gNm 5))
  (dSeq (dAsg (dOp rMod (dCB rIntC (dCons (dOp rAdd (dOp rAdd (dOp rMul (dVar 5) (dVar 5)) (dOp rMul (dC (.int 5300003)) (dDGet (dVar 0) (dC (.str "count"))))) (dC (.int 61))) dNil)) (dC (.int 2147482921))) (gNm 5))
  (dRet (dOp rMod (dCB rIntC (dCons (dOp rFdiv (dOp rMod (dCB rIntC (dCons (dOp rAdd (dOp rMul (dVar 5) (dVar 5)) (dOp rMul (dC (.int 107)) (dVar 5))) dNil)) (dC (.int 2147482859))) (dC (.int 16))) dNil)) (dVar 1)))))))))))

def r_law_heard (α : Dl.Act) : DTS :=
  (dTry CT "BarError" 1 (xRet (xTup (xCons (xPe (dC (.str "told"))) (xCons (xAct 0 α) (xPa dNil))))) (fun a c d =>
  (dSeq (dAsg (dLst (dCons (dIsX CT a c d (dVar 1) "PaperError") (dCons (dIsX CT a c d (dVar 1) "WorkError") dNil))) (gNm 2))
  (dSeq (dDrop (dMt mExtend (dVar 2) (dCons (dFrz (dLst (dCons (dIsX CT a c d (dVar 1) "LiveError") (dCons (dIsX CT a c d (dVar 1) "TextError") dNil)))) dNil)))
  (dSeq (dIfS (dAnd (dTst (dOp rEqv (dVar 2) (dFrz (dLst (dCons (dC (.bl true)) (dCons (dC (.bl false)) (dCons (dC (.bl false)) (dCons (dC (.bl false)) dNil)))))))) (dTru (dIsX CT a c d (dVar 1) "InvalidPaper")))
  (dRet (dTup (dCons (dC (.str "paper")) (dCons (dExf CT a c d (dVar 1) "word") (dCons (dExf CT a c d (dVar 1) "at") dNil)))))
  dNext)
  (dSeq (dIfS (dTst (dOp rEqv (dVar 2) (dFrz (dLst (dCons (dC (.bl false)) (dCons (dC (.bl false)) (dCons (dC (.bl false)) (dCons (dC (.bl true)) dNil))))))))
  (dSeq (dAsg (dAndV (dIsX CT a c d (dVar 1) "InvalidText") (dNotV (dIsX CT a c d (dVar 1) "InvalidRow"))) (gNm 3))
  (dRet (dIf (dTru (dVar 3)) (dTup (dCons (dC (.str "text")) (dCons (dExf CT a c d (dVar 1) "line") (dCons (dExf CT a c d (dVar 1) "field") dNil)))) (dTup (dCons (dC (.str "odd")) dNil)))))
  dNext)
  (dSeq (dIfS (dOr (dTst (dOp rNev (dVar 2) (dFrz (dLst (dCons (dC (.bl false)) (dCons (dC (.bl true)) (dCons (dC (.bl false)) (dCons (dC (.bl false)) dNil)))))))) (dTru (dIsX CT a c d (dVar 1) "NotNext")))
  (dRet (dTup (dCons (dC (.str "odd")) dNil)))
  dNext)
  (dRet (dIf (dTru (dIsX CT a c d (dVar 1) "NotUsable")) (dTup (dCons (dC (.str "use")) (dCons (dExf CT a c d (dVar 1) "word") (dCons (dExf CT a c d (dVar 1) "at") dNil)))) (dTup (dCons (dC (.str "odd")) dNil)))))))))))

end K03

namespace K03
open PySem L2 Dl 
local macro_rules | `(tactic| walk_at "ds") => `(tactic| repeat' with_reducible first
  | fail "stuck")
def innW : Wk → List Wk
  | .lop _ _ _ w => [w]
  | .eit ws => ws
  | .row ws => ws
  | .bes a b => [a, b]
  | _ => []
abbrev Pth := List Nat
mutual
/-- the parts in order, a work ahead of its own -/
def preW (p : Pth) : Wk → List (Pth × Wk)
  | .tick n => [(p, .tick n)]
  | .sme a b t => [(p, .sme a b t)]
  | .lop a b t w => (p, .lop a b t w) :: preW (p ++ [0]) w
  | .eit ws => (p, .eit ws) :: preWs p 0 ws
  | .row ws => (p, .row ws) :: preWs p 0 ws
  | .bes a b => (p, .bes a b) :: (preW (p ++ [0]) a ++ preW (p ++ [1]) b)
def preWs (p : Pth) (k : Nat) : List Wk → List (Pth × Wk)
  | [] => []
  | w :: ws => preW (p ++ [k]) w ++ preWs p (k + 1) ws
end
def alongW : Wk → Pth → Option (List Wk)
  | w, [] => some [w]
  | w, k :: p => match (innW w)[k]? with
    | some u => (alongW u p).map (w :: ·)
    | none => none
mutual
theorem pre_along : ∀ (w : Wk) (p : Pth) (q : Pth × Wk), q ∈ preW p w → ∃ r l, q.1 = p ++ r ∧ alongW w r = some l ∧ l.getLast? = some q.2 ∧ l.length = r.length + 1
  | .tick n, p, q, h => by
    rw [preW, List.mem_singleton] at h; subst h
    exact ⟨[], [.tick n], by simp, by simp [alongW], by simp, rfl⟩
  | .sme a b t, p, q, h => by
    rw [preW, List.mem_singleton] at h; subst h
    exact ⟨[], [.sme a b t], by simp, by simp [alongW], by simp, rfl⟩
  | .lop a b t w, p, q, h => by
    rw [preW, List.mem_cons] at h
    rcases h with rfl | h
    · exact ⟨[], [.lop a b t w], by simp, by simp [alongW], by simp, rfl⟩
    · obtain ⟨r, l, e1, e2, e3, e4⟩ := pre_along w (p ++ [0]) q h
      refine ⟨0 :: r, .lop a b t w :: l, by rw [e1]; simp, by simp [alongW, innW, e2], ?_, by simp [e4]⟩
      rw [List.getLast?_cons, e3]; rfl
  | .eit ws, p, q, h => by
    rw [preW, List.mem_cons] at h
    rcases h with rfl | h
    · exact ⟨[], [.eit ws], by simp, by simp [alongW], by simp, rfl⟩
    · obtain ⟨j, u, r, l, hj, e1, e2, e3, e4⟩ := pres_along ws p 0 q h
      refine ⟨j :: r, .eit ws :: l, by rw [e1]; simp, ?_, ?_, by simp [e4]⟩
      · simp [alongW, innW, hj, e2]
      · rw [List.getLast?_cons, e3]; rfl
  | .row ws, p, q, h => by
    rw [preW, List.mem_cons] at h
    rcases h with rfl | h
    · exact ⟨[], [.row ws], by simp, by simp [alongW], by simp, rfl⟩
    · obtain ⟨j, u, r, l, hj, e1, e2, e3, e4⟩ := pres_along ws p 0 q h
      refine ⟨j :: r, .row ws :: l, by rw [e1]; simp, ?_, ?_, by simp [e4]⟩
      · simp [alongW, innW, hj, e2]
      · rw [List.getLast?_cons, e3]; rfl
  | .bes a b, p, q, h => by
    rw [preW, List.mem_cons, List.mem_append] at h
    rcases h with rfl | h | h
    · exact ⟨[], [.bes a b], by simp, by simp [alongW], by simp, rfl⟩
    · obtain ⟨r, l, e1, e2, e3, e4⟩ := pre_along a (p ++ [0]) q h
      refine ⟨0 :: r, .bes a b :: l, by rw [e1]; simp, by simp [alongW, innW, e2], ?_, by simp [e4]⟩
      rw [List.getLast?_cons, e3]; rfl
    · obtain ⟨r, l, e1, e2, e3, e4⟩ := pre_along b (p ++ [1]) q h
      refine ⟨1 :: r, .bes a b :: l, by rw [e1]; simp, by simp [alongW, innW, e2], ?_, by simp [e4]⟩
      rw [List.getLast?_cons, e3]; rfl
theorem pres_along : ∀ (ws : List Wk) (p : Pth) (k : Nat) (q : Pth × Wk), q ∈ preWs p k ws → ∃ j u r l, ws[j]? = some u ∧ q.1 = p ++ (k + j) :: r ∧ alongW u r = some l ∧ l.getLast? = some q.2 ∧ l.length = r.length + 1
  | [], p, k, q, h => by rw [preWs] at h; cases h
  | w :: ws, p, k, q, h => by
    rw [preWs, List.mem_append] at h
    rcases h with h | h
    · obtain ⟨r, l, e1, e2, e3, e4⟩ := pre_along w (p ++ [k]) q h
      exact ⟨0, w, r, l, rfl, by rw [e1]; simp, e2, e3, e4⟩
    · obtain ⟨j, u, r, l, hj, e1, e2, e3, e4⟩ := pres_along ws p (k + 1) q h
      exact ⟨j + 1, u, r, l, by simpa using hj, by rw [e1]; congr 2; omega, e2, e3, e4⟩
end
end K03

namespace K03
open PySem L2 Dl 
local macro_rules | `(tactic| walk_at "ds") => `(tactic| repeat' with_reducible first
  | refine iVar (by with_unfolding_all rfl) ?_
  | refine iCons ?_
  | refine iNil ?_
  | refine iC ?_
  | refine iOp ?_
  | refine iSeq ?_
  | refine iAsg ?_
  | refine iGNm ?_
  | refine iFrz ?_
  | refine iTst ?_
  | refine iIfS ?_
  | refine iRet ?_
  | refine iLst ?_
  | refine iNext ?_
  | refine iDGet ?_
  | refine dctP_i (by assumption) ?_
  | refine dctP_i updG_same ?_
  | refine iGSb ?_
  | refine lenOk (by with_unfolding_all rfl) ?_
  | refine frzEnd ?_
  | refine lstC_l ?_
  | refine iAnd ?_
  | refine iIf ?_
  | refine ifT ?_
  | refine ifF ?_
  | refine iCB ?_
  | refine iSl ?_
  | refine iP ?_
  | refine iNoP ?_
  | refine rIx_i (by with_unfolding_all rfl) (by with_unfolding_all rfl) ?_
  | refine rIx_i (by with_unfolding_all rfl) atI_0 ?_
  | refine add_ii ?_
  | refine int0 ?_
  | refine len_l ?_
  | refine intC_i ?_
  | refine keyP_s ?_
  | refine iPsC ?_
  | refine iPsN ?_
  | fail "stuck")
def feedKv (cs : List Int) (at_ lf cn : Int) : List (Key × D) := [(.inr "cells", .lst (cs.map D.int)), (.inr "at", .int at_), (.inr "left", .int lf), (.inr "count", .int cn)]
def FeedOk (G : GH) (a : Addr) : Prop := ∃ cs at_ lf cn, G a = some (.dct (feedKv cs at_ lf cn))
def KeepX (a : Addr) (G G' : GH) : Prop := ∀ b o, b ≠ a → G b = some o → G' b = some o
theorem KeepX.trans {a : Addr} {G G1 G2 : GH} (h : KeepX a G G1) (k : KeepX a G1 G2) : KeepX a G G2 := fun b o n e => k b o n (h b o n e)
theorem KeepX.upd {a : Addr} {G : GH} {o : DO} : KeepX a G (updG G a o) := fun b u n e => by rw [updG_ne n]; exact e
theorem FeedOk.grow {a : Addr} {G G' : GH} (h : FeedOk G a) (k : Grow G G') : FeedOk G' a := by
  obtain ⟨c, x, y, z, e⟩ := h
  exact ⟨c, x, y, z, k _ _ e⟩
theorem FeedOk.ne {a p : Addr} {G : GH} (h : FeedOk G a) (hp : G p = none) : a ≠ p := by
  rintro rfl
  obtain ⟨_, _, _, _, e⟩ := h
  rw [hp] at e; cases e
theorem FeedOk.keep {a b : Addr} {G G' : GH} (h : FeedOk G a) (hn : a ≠ b) (k : KeepX b G G') : FeedOk G' a := by
  obtain ⟨c, x, y, z, e⟩ := h
  exact ⟨c, x, y, z, k _ _ hn e⟩
theorem g_cells {cs : List Int} {x y z : Int} : getK (feedKv cs x y z) (.inr "cells") = some (.lst (cs.map D.int)) := by simp [getK, feedKv]
theorem g_at {cs : List Int} {x y z : Int} : getK (feedKv cs x y z) (.inr "at") = some (.int x) := by simp [getK, feedKv]
theorem g_left {cs : List Int} {x y z : Int} : getK (feedKv cs x y z) (.inr "left") = some (.int y) := by simp [getK, feedKv]
theorem g_count {cs : List Int} {x y z : Int} : getK (feedKv cs x y z) (.inr "count") = some (.int z) := by simp [getK, feedKv]
theorem p_at {cs : List Int} {x y z v : Int} : putD (feedKv cs x y z) (.inr "at") (.int v) = feedKv cs v y z := by simp [putD, feedKv]
theorem p_left {cs : List Int} {x y z v : Int} : putD (feedKv cs x y z) (.inr "left") (.int v) = feedKv cs x v z := by simp [putD, feedKv]
theorem p_count {cs : List Int} {x y z v : Int} : putD (feedKv cs x y z) (.inr "count") (.int v) = feedKv cs x y v := by simp [putD, feedKv]
theorem sDct_i {a : Addr} {kvs : List (Key × D)} {x : Str} {d : D} {G : GH} {Q : GH → Prop} (e : G a = some (.dct kvs)) (z : kvs.length < sizeLine) (h : Q (updG G a (.dct (putD kvs (.inr x) d)))) : sDct (.ref a) (.str x) d G Q := dctP_i e ⟨z, h⟩
theorem cell_at {cs : List Int} (h : cs ≠ []) (k : Int) : ∃ c : Int, atI (cs.map D.int) (k % (cs.length : Int)) = some (.int c) := by
  have hl : 0 < cs.length := List.length_pos_iff.mpr h
  have h1 := Int.emod_nonneg k (show (cs.length : Int) ≠ 0 by omega)
  have h2 := Int.emod_lt_of_pos k (show (0 : Int) < cs.length by omega)
  obtain ⟨j, hj⟩ : ∃ j : Nat, k % (cs.length : Int) = j := ⟨(k % (cs.length : Int)).toNat, by omega⟩
  rw [hj]
  have hj2 : j < cs.length := by omega
  exact ⟨cs[j], Dl.atI_nat (by simp [hj2])⟩
theorem okCells (cs : List Int) : okD (.lst (cs.map D.int)) := by
  constructor
  · rw [pureD]
    induction cs with
    | nil => simp [pureDs]
    | cons x xs ih => simp [pureDs, pureD, ih]
  · rw [depD]
    have : depDs (cs.map D.int) ≤ 0 := depDs_le (by intro d hd; obtain ⟨i, -, rfl⟩ := List.mem_map.mp hd; simp [depD])
    omega
def spDraw : DSp := fun ds G Q _ => ∃ a m, ds = [.ref a, .int m] ∧ 0 < m ∧ m < 1073741824 ∧ FeedOk G a ∧ ∀ (r : Int) G', 0 ≤ r → r < m → FeedOk G' a → KeepX a G G' → Q (.int r) G'
theorem mod64 (u : Int) {k : Int} (h1 : 0 < k) (h2 : k < 4294967296) (j : Int) : CMul (u % k) j := by
  have h3 := Int.emod_nonneg u (show k ≠ 0 by omega)
  have h4 := Int.emod_lt_of_pos u h1
  refine .inl ⟨?_, ?_⟩
  · have : (-2 ^ 64 : Int) < 0 := by decide
    omega
  · have : (2 : Int) ^ 64 = 18446744073709551616 := by decide
    omega
theorem law_draw_rd : ∀ ds G Q E, spDraw ds G Q E → r_law_draw { nx := fun _ G' => Q .non G', rt := Q } (startD 6 ds) G := by
  rintro ds G Q E ⟨a, m, rfl, hm, hm2, ⟨cs, x, y, z, e⟩, hq⟩
  unfold r_law_draw
  have go : ∀ (v : Int) (c : List Int) (x y z : Int), Q (.int (v % m)) (updG G a (.dct (feedKv c x y z))) := fun v c x y z =>
    hq _ _ (Int.emod_nonneg _ (by omega)) (Int.emod_lt_of_pos _ hm) ⟨c, x, y, z, updG_same⟩ KeepX.upd
  walk_at "ds"
  refine getK_i g_count ?_
  walk_at "ds"
  refine sDct_i e (by show 4 < sizeLine; decide) ?_
  rw [p_count]
  walk_at "ds"
  refine getK_i g_left ?_
  walk_at "ds"
  refine ifD (fun h => ?_) (fun h => ?_)
  · walk_at "ds"
    refine getK_i g_left ?_
    walk_at "ds"
    refine int2 hm ?_
    walk_at "ds"
    refine getK_i g_left ?_
    walk_at "ds"
    refine int2 ⟨hm, hm2⟩ ?_
    walk_at "ds"
    refine sDct_i updG_same (by show 4 < sizeLine; decide) ?_
    rw [p_left, updG_updG]
    walk_at "ds"
    exact go _ _ _ _ _
  · walk_at "ds"
    refine getK_i g_at ?_
    walk_at "ds"
    refine sDct_i updG_same (by show 4 < sizeLine; decide) ?_
    rw [p_at, updG_updG]
    dsimp only
    refine seqC (fun ρ G2 => ∃ c : Int, ρ = [some (.ref a), some (.int m), none, some (.int x), some (.int c), none] ∧ G2 = updG G a (.dct (feedKv cs (x + 1) y (z + 1)))) ?_ ?_
    · intro K hK
      walk_at "ds"
      refine getK_i g_cells ?_
      walk_at "ds"
      refine ne_ll (okCells cs) (okCells []) ?_
      by_cases hne : cs = []
      · rw [hne, show eqvD (.lst (([] : List Int).map D.int)) (.lst []) = true from by decide +kernel]
        refine ifF ?_
        walk_at "ds"
        exact hK _ _ ⟨53, rfl, by rw [hne]⟩
      · rw [show eqvD (.lst (cs.map D.int)) (.lst []) = false from by cases cs with
          | nil => exact absurd rfl hne
          | cons => simp [eqvD, eqvDs]]
        refine ifT ?_
        walk_at "ds"
        refine getK_i g_cells ?_
        walk_at "ds"
        refine getK_i g_cells ?_
        walk_at "ds"
        have hl : 0 < cs.length := List.length_pos_iff.mpr hne
        refine int2 (by rw [List.length_map]; omega) ?_
        rw [List.length_map]
        obtain ⟨c, hc⟩ := cell_at hne x
        refine rIx_i rfl hc ?_
        walk_at "ds"
        exact hK _ _ ⟨c, rfl, rfl⟩
    rintro ρ G2 ⟨c, rfl, rfl⟩
    have tail : (dSeq (dAsg (dOp rMod (dCB rIntC (dCons (dOp rAdd (dOp rAdd (dOp rMod (dCB rIntC (dCons (dVar 4) dNil)) (dC (.int 1000000487))) (dOp rMul (dC (.int 240007)) (dDGet (dVar 0) (dC (.str "count"))))) (dC (.int 103))) dNil)) (dC (.int 2147482937))) (gNm 5))
        (dSeq (dAsg (dOp rMod (dCB rIntC (dCons (dOp rAdd (dOp rAdd (dOp rMul (dVar 5) (dVar 5)) (dOp rMul (dC (.int 5300003)) (dDGet (dVar 0) (dC (.str "count"))))) (dC (.int 61))) dNil)) (dC (.int 2147482921))) (gNm 5))
        (dRet (dOp rMod (dCB rIntC (dCons (dOp rFdiv (dOp rMod (dCB rIntC (dCons (dOp rAdd (dOp rMul (dVar 5) (dVar 5)) (dOp rMul (dC (.int 107)) (dVar 5))) dNil)) (dC (.int 2147482859))) (dC (.int 16))) dNil)) (dVar 1))))) { nx := fun _ G' => Q .non G', rt := Q } [some (.ref a), some (.int m), none, some (.int x), some (.int c), none] (updG G a (.dct (feedKv cs (x + 1) y (z + 1)))) := by
      walk_at "ds"
      refine int2 (by decide) ?_
      walk_at "ds"
      refine getK_i g_count ?_
      walk_at "ds"
      refine mul_ii (.inl ⟨by decide, by decide⟩) ?_
      walk_at "ds"
      refine int2 (by decide) ?_
      walk_at "ds"
      refine mul_ii (mod64 _ (by decide) (by decide) _) ?_
      walk_at "ds"
      refine getK_i g_count ?_
      walk_at "ds"
      refine mul_ii (.inl ⟨by decide, by decide⟩) ?_
      walk_at "ds"
      refine int2 (by decide) ?_
      walk_at "ds"
      refine mul_ii (mod64 _ (by decide) (by decide) _) ?_
      walk_at "ds"
      refine mul_ii (.inl ⟨by decide, by decide⟩) ?_
      walk_at "ds"
      refine int2 (by decide) ?_
      walk_at "ds"
      refine int2 ⟨by decide, by decide⟩ ?_
      walk_at "ds"
      refine int2 hm ?_
      exact go _ _ _ _ _
    walk_at "ds"
    refine int2 ⟨by decide, by decide, by decide⟩ ?_
    walk_at "ds"
    refine ifD (fun h1 => ?_) (fun h1 => ?_)
    · walk_at "ds"
      refine getK_i g_cells ?_
      walk_at "ds"
      refine ifD (fun h2 => ?_) (fun h2 => ?_)
      · walk_at "ds"
        refine int2 ⟨hm, hm2⟩ ?_
        walk_at "ds"
        refine sDct_i updG_same (by show 4 < sizeLine; decide) ?_
        rw [p_left, updG_updG]
        walk_at "ds"
        refine int2 hm ?_
        exact go _ _ _ _ _
      · first | exact tail | exact ifF tail | exact ifF (ifF tail)
    · first | exact tail | exact ifF tail | exact ifF (ifF tail)
def spFeed : DSp := fun ds G Q _ => ∃ ns, ds = [.scr ns] ∧ ∀ p G', Grow G G' → FeedOk G' p → G p = none → Q (.ref p) G'
theorem law_feed_rd : ∀ ds G Q E, spFeed ds G Q E → r_law_feed { nx := fun _ G' => Q .non G', rt := Q } (startD 1 ds) G := by
  rintro ds G Q E ⟨ns, rfl, hq⟩
  unfold r_law_feed
  walk_at "ds"
  refine iDisp fun p hp => ?_
  walk_at "ds"
  refine slS ?_
  walk_at "ds"
  refine dispEnd updG_same (by with_unfolding_all rfl) (by rfl) ?_
  refine hq p _ (Grow.upd2 hp (Grow.upd hp)) ⟨(ns.drop 0).take (min 63 ns.length), 0, 0, 0, ?_⟩ hp
  rw [updG_same]
  simp [mergeD, putD, feedKv, cutD, HT.sIx, List.map_take]
end K03

namespace K03
open PySem L2 Dl 
local macro_rules | `(tactic| walk_at "ds") => `(tactic| repeat' with_reducible first
  | fail "stuck")
mutual
/-- how many parts -/
def cW : Wk → Nat
  | .tick _ => 1
  | .sme _ _ _ => 1
  | .lop _ _ _ w => 1 + cW w
  | .eit ws => 1 + cWs ws
  | .row ws => 1 + cWs ws
  | .bes a b => 1 + (cW a + cW b)
def cWs : List Wk → Nat
  | [] => 0
  | w :: ws => cW w + cWs ws
end
mutual
/-- how many within one another at most -/
def dW : Wk → Nat
  | .tick _ => 1
  | .sme _ _ _ => 1
  | .lop _ _ _ w => 1 + dW w
  | .eit ws => 1 + dWs ws
  | .row ws => 1 + dWs ws
  | .bes a b => 1 + max (dW a) (dW b)
def dWs : List Wk → Nat
  | [] => 0
  | w :: ws => max (dW w) (dWs ws)
end
theorem cW_in : ∀ w : Wk, cW w = 1 + cWs (innW w)
  | .tick _ => by simp [cW, innW, cWs]
  | .sme _ _ _ => by simp [cW, innW, cWs]
  | .lop _ _ _ w => by simp [cW, innW, cWs]
  | .eit ws => by simp [cW, innW]
  | .row ws => by simp [cW, innW]
  | .bes a b => by simp [cW, innW, cWs]
theorem dW_in : ∀ w : Wk, dW w = 1 + dWs (innW w)
  | .tick _ => by simp [dW, innW, dWs]
  | .sme _ _ _ => by simp [dW, innW, dWs]
  | .lop _ _ _ w => by simp [dW, innW, dWs]
  | .eit ws => by simp [dW, innW]
  | .row ws => by simp [dW, innW]
  | .bes a b => by simp [dW, innW, dWs]
theorem cWs_mem : ∀ {ws : List Wk} {u : Wk}, u ∈ ws → cW u ≤ cWs ws
  | [], u, h => nomatch h
  | w :: ws, u, h => by
    rw [cWs]
    rcases List.mem_cons.mp h with rfl | h
    · omega
    · have := cWs_mem h; omega
theorem dWs_mem : ∀ {ws : List Wk} {u : Wk}, u ∈ ws → dW u ≤ dWs ws
  | [], u, h => nomatch h
  | w :: ws, u, h => by
    rw [dWs]
    rcases List.mem_cons.mp h with rfl | h
    · omega
    · have := dWs_mem h; omega
theorem inn_c {w u : Wk} (h : u ∈ innW w) : cW u < cW w := by have := cWs_mem h; rw [cW_in w]; omega
theorem inn_d {w u : Wk} (h : u ∈ innW w) : dW u < dW w := by have := dWs_mem h; rw [dW_in w]; omega
theorem okWs_mem {B : Int} : ∀ {ws : List Wk} {u : Wk}, okWs B ws → u ∈ ws → okW B u
  | [], u, _, h => nomatch h
  | w :: ws, u, k, h => by
    rw [okWs] at k
    rcases List.mem_cons.mp h with rfl | h
    · exact k.1
    · exact okWs_mem k.2 h
theorem inn_ok {B : Int} {w u : Wk} (k : okW B w) (h : u ∈ innW w) : okW B u := by
  cases w with
  | tick n => cases h
  | sme a b t => cases h
  | lop a b t v => rw [okW] at k; rw [innW, List.mem_singleton] at h; subst h; exact k.2.2.2
  | eit ws => rw [okW] at k; exact okWs_mem k.2 h
  | row ws => rw [okW] at k; exact okWs_mem k h
  | bes a b =>
    rw [okW] at k
    simp only [innW, List.mem_cons, List.not_mem_nil, or_false] at h
    rcases h with rfl | rfl
    · exact k.1
    · exact k.2
theorem along_ind {P : Wk → Prop} (hP : ∀ w u, P w → u ∈ innW w → P u) : ∀ (r : Pth) (w : Wk) (l : List Wk), P w → alongW w r = some l → ∀ u ∈ l, P u
  | [], w, l, h, e, u, hu => by
    rw [alongW] at e; cases e
    rw [List.mem_singleton] at hu; subst hu; exact h
  | k :: r, w, l, h, e, u, hu => by
    rw [alongW] at e
    split at e
    · rename_i v hv
      obtain ⟨l', e', rfl⟩ := Option.map_eq_some_iff.mp e
      rcases List.mem_cons.mp hu with rfl | hu
      · exact h
      · exact along_ind hP r v l' (hP w v h (List.mem_of_getElem? hv)) e' u hu
    · cases e
theorem pre_ind {P : Wk → Prop} (hP : ∀ w u, P w → u ∈ innW w → P u) {w : Wk} {p : Pth} {q : Pth × Wk} (h : P w) (hq : q ∈ preW p w) : P q.2 := by
  obtain ⟨r, l, e1, e2, e3, e4⟩ := pre_along w p q hq
  exact along_ind hP r w l h e2 _ (List.mem_of_getLast? e3)
structure Gw (w : Wk) (n d : Nat) : Prop where
  ok : okW 999 w
  c : cW w ≤ n
  d : dW w ≤ d
theorem Gw.inn {w u : Wk} {n d : Nat} (h : Gw w n d) (hu : u ∈ innW w) : Gw u n d := ⟨inn_ok h.ok hu, by have := inn_c hu; have := h.c; omega, by have := inn_d hu; have := h.d; omega⟩
theorem Gw.part {w : Wk} {n d : Nat} {p : Pth} {q : Pth × Wk} (h : Gw w n d) (hq : q ∈ preW p w) : Gw q.2 n d := pre_ind (P := fun u => Gw u n d) (fun _ _ h hu => h.inn hu) h hq
mutual
theorem wtW : ∀ w : Wk, wtD (toD w) + 1 ≤ 100 * cW w
  | .tick n => by simp [toD, wtD, wtDs, cW, sl_tick]
  | .sme a b t => by simp [toD, wtD, wtDs, cW, sl_some]
  | .lop a b t w => by have h := wtW w; simp only [toD, wtD, wtDs, cW, sl_loop]; omega
  | .eit ws => by have h := wtWs ws; simp only [toD, wtD, wtDs, cW, sl_either]; omega
  | .row ws => by have h := wtWs ws; simp only [toD, wtD, wtDs, cW, sl_row]; omega
  | .bes a b => by have h1 := wtW a; have h2 := wtW b; simp only [toD, wtD, wtDs, cW, sl_beside]; omega
theorem wtWs : ∀ ws : List Wk, wtDs (toDs ws) ≤ 100 * cWs ws
  | [] => by simp [toDs, wtDs]
  | w :: ws => by have h1 := wtW w; have h2 := wtWs ws; simp only [toDs, wtDs, cWs]; omega
end
mutual
theorem dpW2 : ∀ w : Wk, dpW w ≤ 2 * dW w
  | .tick n => by simp [dpW, dW]
  | .sme a b t => by simp [dpW, dW]
  | .lop a b t w => by have := dpW2 w; simp only [dpW, dW]; omega
  | .eit ws => by have := dpWs2 ws; simp only [dpW, dW]; omega
  | .row ws => by have := dpWs2 ws; simp only [dpW, dW]; omega
  | .bes a b => by have := dpW2 a; have := dpW2 b; simp only [dpW, dW]; omega
theorem dpWs2 : ∀ ws : List Wk, dpWs ws ≤ 2 * dWs ws
  | [] => by simp [dpWs]
  | w :: ws => by have := dpW2 w; have := dpWs2 ws; simp only [dpWs, dWs]; omega
end
end K03

namespace K03
open PySem L2 Dl 
local macro_rules | `(tactic| walk_at "ds") => `(tactic| repeat' with_reducible first
  | refine iVar (by with_unfolding_all rfl) ?_
  | refine iCons ?_
  | refine iNil ?_
  | refine iC ?_
  | refine iOp ?_
  | refine iSeq ?_
  | refine iAsg ?_
  | refine iGNm ?_
  | refine iTup ?_
  | refine iFrz ?_
  | refine iTst ?_
  | refine iIfS ?_
  | refine iRet ?_
  | refine iCall ?_
  | refine iLst ?_
  | refine iNext ?_
  | refine lstP_i (by assumption) ?_
  | refine lstP_i updG_same ?_
  | refine iRev ?_
  | refine revL ?_
  | refine iDrop ?_
  | refine iPar ?_
  | refine iGTp (by with_unfolding_all rfl) ?_
  | refine iGsCons ?_
  | refine iGsNil ?_
  | refine lenOk (by with_unfolding_all rfl) ?_
  | refine frzEnd ?_
  | refine lstC_t ?_
  | refine iIf ?_
  | refine ifT ?_
  | refine ifF ?_
  | refine iCB ?_
  | refine iMt ?_
  | refine iStar ?_
  | refine iFor ?_
  | refine rIx_i (by with_unfolding_all rfl) (by with_unfolding_all rfl) ?_
  | refine rIx_i (by with_unfolding_all rfl) atI_0 ?_
  | refine eq_strT ?_
  | refine eq_strF (by with_unfolding_all rfl) ?_
  | refine int0 ?_
  | refine len_l ?_
  | refine iIRg1 ?_
  | refine inn_T (by with_unfolding_all rfl) (by decide +kernel) (by decide +kernel) (by decide +kernel) ?_
  | refine inn_F (by with_unfolding_all rfl) (by decide +kernel) (by decide +kernel) (by decide +kernel) ?_
  | fail "stuck")
theorem forN (n : Nat) (f : Nat → D) {g : DTG} {tb : DTS} {E : DEnds} {J : Nat → DSt → GH → Prop} (h0 : ∀ ρ G, J n ρ G → E.nx ρ G)
    (h : ∀ k, k < n → ∀ ρ G, J k ρ G → ∀ K : DSt → GH → Prop, (∀ ρ' G', J (k + 1) ρ' G' → K ρ' G') → g (f k) ρ G fun ρ2 G2 => tb { E with nx := K, ct := K, bk := E.nx } ρ2 G2) :
    ∀ ρ G, J 0 ρ G → dForGo okAll g tb ((List.range n).map f) E ρ G := by
  intro ρ G j
  refine dForGo_of (I := fun rest ρ G => ∃ k, k ≤ n ∧ rest = ((List.range n).map f).drop k ∧ J k ρ G) ?_ ?_ _ _ _ ⟨0, Nat.zero_le _, rfl, j⟩
  · rintro ρ G ⟨k, hk, e, j⟩
    have : k = n := by
      have := congrArg List.length e
      rw [List.length_drop, List.length_map, List.length_range, List.length_nil] at this
      omega
    subst this
    exact ⟨trivial, h0 ρ G j⟩
  · rintro x rest ρ G ⟨k, hk, e, j⟩ K hK
    have hlt : k < n := by
      have := congrArg List.length e
      rw [List.length_drop, List.length_map, List.length_range, List.length_cons] at this
      omega
    rw [List.drop_eq_getElem_cons (by rw [List.length_map, List.length_range]; exact hlt)] at e
    injection e with e1 e2
    subst e2
    rw [e1, List.getElem_map, List.getElem_range]
    exact ⟨trivial, h k hlt ρ G j K fun ρ' G' j' => hK ρ' G' ⟨k + 1, hlt, rfl, j'⟩⟩
end K03

namespace K03
open PySem L2 Dl 
local macro_rules | `(tactic| walk_at "ds") => `(tactic| repeat' with_reducible first
  | refine iVar (by with_unfolding_all rfl) ?_
  | refine iCons ?_
  | refine iNil ?_
  | refine iC ?_
  | refine iOp ?_
  | refine iFrz ?_
  | refine iRet ?_
  | refine iCall ?_
  | refine iLst ?_
  | refine lenOk (by with_unfolding_all rfl) ?_
  | refine frzEnd ?_
  | refine iCB ?_
  | refine iISq ?_
  | refine add_ii ?_
  | refine len_l ?_
  | refine tupC_l ?_
  | fail "stuck")
end K03

namespace K03
open PySem L2 Dl 
local macro_rules | `(tactic| walk_at "ds") => `(tactic| repeat' with_reducible first
  | refine iVar (by with_unfolding_all rfl) ?_
  | refine iCons ?_
  | refine iNil ?_
  | refine iC ?_
  | refine iOp ?_
  | refine iSeq ?_
  | refine iAsg ?_
  | refine iGNm ?_
  | refine iTup ?_
  | refine iFrz ?_
  | refine iTst ?_
  | refine iIfS ?_
  | refine iRet ?_
  | refine iCall ?_
  | refine iNext ?_
  | refine iRev ?_
  | refine revT ?_
  | refine revL ?_
  | refine iGTp (by with_unfolding_all rfl) ?_
  | refine iGsCons ?_
  | refine iGsNil ?_
  | refine lenOk (by with_unfolding_all rfl) ?_
  | refine frzEnd ?_
  | refine slT ?_
  | refine iIf ?_
  | refine ifT ?_
  | refine ifF ?_
  | refine iSl ?_
  | refine iP ?_
  | refine iNoP ?_
  | refine iStar ?_
  | refine iFor ?_
  | refine rIx_i (by with_unfolding_all rfl) (by with_unfolding_all rfl) ?_
  | refine rIx_i (by with_unfolding_all rfl) atI_0 ?_
  | refine eq_strT ?_
  | refine eq_strF (by with_unfolding_all rfl) ?_
  | fail "stuck")
end K03

namespace K03
open PySem L2 Dl 
local macro_rules | `(tactic| walk_at "ds") => `(tactic| repeat' with_reducible first
  | refine iVar (by with_unfolding_all rfl) ?_
  | refine iCons ?_
  | refine iNil ?_
  | refine iC ?_
  | refine iOp ?_
  | refine iSeq ?_
  | refine iAsg ?_
  | refine iTup ?_
  | refine iFrz ?_
  | refine iTst ?_
  | refine iIfS ?_
  | refine iRet ?_
  | refine iCall ?_
  | refine iNext ?_
  | refine iPar ?_
  | refine iGSb ?_
  | refine lenOk (by with_unfolding_all rfl) ?_
  | refine slT ?_
  | refine iIf ?_
  | refine ifT ?_
  | refine ifF ?_
  | refine iCB ?_
  | refine iSl ?_
  | refine iP ?_
  | refine iNoP ?_
  | refine iISq ?_
  | refine rIx_i (by with_unfolding_all rfl) (by with_unfolding_all rfl) ?_
  | refine rIx_i (by with_unfolding_all rfl) atI_0 ?_
  | refine eq_strT ?_
  | refine eq_strF (by with_unfolding_all rfl) ?_
  | refine add_ttb (by with_unfolding_all rfl) ?_
  | refine inn_T (by with_unfolding_all rfl) (by decide +kernel) (by decide +kernel) (by decide +kernel) ?_
  | refine inn_F (by with_unfolding_all rfl) (by decide +kernel) (by decide +kernel) (by decide +kernel) ?_
  | fail "stuck")
end K03

namespace K03
open PySem L2 Dl 
local macro_rules | `(tactic| walk_at "ds") => `(tactic| repeat' with_reducible first
  | refine iVar (by with_unfolding_all rfl) ?_
  | refine iCons ?_
  | refine iNil ?_
  | refine iC ?_
  | refine iOp ?_
  | refine iAsg ?_
  | refine iGNm ?_
  | refine iFrz ?_
  | refine iRet ?_
  | refine iCall ?_
  | refine iLst ?_
  | refine iNext ?_
  | refine iXPa ?_
  | refine iXPt ?_
  | refine iXPs ?_
  | refine iXSeq ?_
  | refine iXDrop ?_
  | refine iXIfS ?_
  | refine iXCall ?_
  | refine iXRaise ?_
  | refine iNeg ?_
  | refine lstP_i (by assumption) ?_
  | refine lstP_i updG_same ?_
  | refine iDrop ?_
  | refine lenOk (by with_unfolding_all rfl) ?_
  | refine iTru ?_
  | refine truB ?_
  | refine iNot ?_
  | refine iAndVK ?_
  | refine andVT ?_
  | refine andVF ?_
  | refine iNotV ?_
  | refine iCB ?_
  | refine iMt ?_
  | refine iIsi ?_
  | refine iISq ?_
  | refine rIx_i (by with_unfolding_all rfl) (by with_unfolding_all rfl) ?_
  | refine rIx_i (by with_unfolding_all rfl) atI_0 ?_
  | refine int0 ?_
  | refine len_l ?_
  | refine isi_T (by with_unfolding_all rfl) (by decide +kernel) ?_
  | refine isi_F (by with_unfolding_all rfl) (by decide +kernel) ?_
  | refine ifNT ?_
  | refine ifNF ?_
  | fail "stuck")
def nuA (w : Str) (k : Int) : DX := ⟨"NotUsable", [("at", .int k), ("word", .str w)]⟩
abbrev nu (w : Str) : DX := nuA w (-1)
def ruO (b : Bool) (w : Str) (k : Int) : Except DX D := match b with
  | true => .ok .non
  | false => .error (nuA w k)
def RUx : List D → Except DX D → Prop := fun ds o => ∃ b w k, ds = [.bl b, .str w, .int k] ∧ o = ruO b w k
theorem require_usable_rd : ∀ ds G Q E, pSpX RUx ds G Q E → r_require_usable (fun x _ G' => E x G') { nx := fun _ G' => Q .non G', rt := Q } (startD 3 ds) G := by
  rintro ds G Q E ⟨o, ⟨b, w, k, rfl, rfl⟩, hq⟩
  unfold r_require_usable
  have e := hq G (Grow.refl G)
  cases b with
  | true => walk_at "ds"; exact e
  | false => walk_at "ds"; exact ⟨rfl, e⟩
def Pln : D → Bool
  | .non | .bl _ | .int _ | .str _ | .tup _ | .lst _ => true
  | _ => false
structure WaOk (w : Wk) (x : D) : Prop where
  c : cW w ≤ 400
  pl : Pln x = true
  its : ∀ xs, x = .tup xs → (∀ y ∈ xs, Pln y = true) ∧ xs.length ≤ 1000
theorem atI_last {α : Type} (xs : List α) (x : α) : atI (xs ++ [x]) (-1) = some x := by
  unfold atI ixN
  rw [if_neg (by decide), if_pos (by simp; omega)]
  have e : ((-1 : Int) + ((xs ++ [x]).length : Nat)).toNat = xs.length := by simp; omega
  show (xs ++ [x])[((-1 : Int) + ((xs ++ [x]).length : Nat)).toNat]? = some x
  rw [e]; simp
theorem iXFor {wi : DTI} {g : DTG} {tb : XTS} {Z : DZ} {E : DEnds} {ρ : DSt} {G : GH} (h : wi ρ G fun items ok G1 => dForGo ok g (tb Z) items E ρ G1) : xFor wi g tb Z E ρ G := h
end K03

namespace K03
open PySem L2 Dl 
local macro_rules | `(tactic| walk_at "ds") => `(tactic| repeat' with_reducible first
  | refine iVar (by with_unfolding_all rfl) ?_
  | refine iCons ?_
  | refine iNil ?_
  | refine iC ?_
  | refine iOp ?_
  | refine iSeq ?_
  | refine iAsg ?_
  | refine iGNm ?_
  | refine iTst ?_
  | refine iIfS ?_
  | refine iRet ?_
  | refine iCall ?_
  | refine iNext ?_
  | refine isN_T ?_
  | refine isN_F (by with_unfolding_all rfl) ?_
  | refine iTru ?_
  | refine truB ?_
  | refine iAnd ?_
  | refine iOr ?_
  | refine iNot ?_
  | refine ifDT (by decide) ?_
  | refine ifDF (by decide) ?_
  | refine iIf ?_
  | refine ifT ?_
  | refine ifF ?_
  | refine iCB ?_
  | refine iIsi ?_
  | refine rIx_i (by with_unfolding_all rfl) (by with_unfolding_all rfl) ?_
  | refine rIx_i (by with_unfolding_all rfl) atI_0 ?_
  | refine eq_strT ?_
  | refine eq_strF (by with_unfolding_all rfl) ?_
  | refine eq_ii ?_
  | refine int0 ?_
  | refine len_t ?_
  | refine inn_T (by with_unfolding_all rfl) (by decide +kernel) (by decide +kernel) (by decide +kernel) ?_
  | refine inn_F (by with_unfolding_all rfl) (by decide +kernel) (by decide +kernel) (by decide +kernel) ?_
  | refine isi_T (by with_unfolding_all rfl) (by decide +kernel) ?_
  | refine isi_F (by with_unfolding_all rfl) (by decide +kernel) ?_
  | refine ifNT ?_
  | refine ifNF ?_
  | refine ifDT (by with_reducible_and_instances first | omega | (simp only [List.length_cons, List.length_nil]; omega)) ?_
  | refine ifDF (by with_reducible_and_instances first | omega | (simp only [List.length_cons, List.length_nil]; omega)) ?_
  | fail "stuck")
section
variable {ρ : DSt} {G : GH} {Q : DK} {i : Nat}
end
end K03

namespace K03
open PySem L2 Dl 
local macro_rules | `(tactic| walk_at "ds") => `(tactic| repeat' with_reducible first
  | refine iVar (by with_unfolding_all rfl) ?_
  | refine iCons ?_
  | refine iNil ?_
  | refine iC ?_
  | refine iOp ?_
  | refine iSeq ?_
  | refine iAsg ?_
  | refine iGNm ?_
  | refine iTup ?_
  | refine iFrz ?_
  | refine iTst ?_
  | refine iIfS ?_
  | refine iRet ?_
  | refine iCall ?_
  | refine iLst ?_
  | refine iNext ?_
  | refine iXPe ?_
  | refine iXPa ?_
  | refine iXPs ?_
  | refine iXSeq ?_
  | refine iXDrop ?_
  | refine iXRet ?_
  | refine iXAsg ?_
  | refine iXOp ?_
  | refine iXCall ?_
  | refine iNeg ?_
  | refine lstP_i (by assumption) ?_
  | refine lstP_i updG_same ?_
  | refine isN_T ?_
  | refine isN_F (by with_unfolding_all rfl) ?_
  | refine iRev ?_
  | refine revL ?_
  | refine iDrop ?_
  | refine iGTp (by with_unfolding_all rfl) ?_
  | refine iGsCons ?_
  | refine iGsNil ?_
  | refine lenOk (by with_unfolding_all rfl) ?_
  | refine frzEnd ?_
  | refine ifT ?_
  | refine ifF ?_
  | refine iCB ?_
  | refine iMt ?_
  | refine iSl ?_
  | refine iP ?_
  | refine iNoP ?_
  | refine rIx_i (by with_unfolding_all rfl) (by with_unfolding_all rfl) ?_
  | refine rIx_i (by with_unfolding_all rfl) atI_0 ?_
  | refine int0 ?_
  | fail "stuck")
end K03

namespace K03
open PySem L2 Dl 
local macro_rules | `(tactic| walk_at "ds") => `(tactic| repeat' with_reducible first
  | refine iVar (by with_unfolding_all rfl) ?_
  | refine iCons ?_
  | refine iNil ?_
  | refine iC ?_
  | refine iOp ?_
  | refine iSeq ?_
  | refine iAsg ?_
  | refine iGNm ?_
  | refine iTup ?_
  | refine iFrz ?_
  | refine iTst ?_
  | refine iIfS ?_
  | refine iRet ?_
  | refine iLst ?_
  | refine iNext ?_
  | refine iXPe ?_
  | refine iXRet ?_
  | refine iXCons ?_
  | refine iXTup ?_
  | refine iDSeqTry ?_
  | refine iIsX ?_
  | refine iExf ?_
  | refine iXAct (by with_unfolding_all rfl) ?_
  | refine lstP_i (by assumption) ?_
  | refine lstP_i updG_same ?_
  | refine iDrop ?_
  | refine lenOk (by with_unfolding_all rfl) ?_
  | refine frzEnd ?_
  | refine iTru ?_
  | refine truB ?_
  | refine iAnd ?_
  | refine iOr ?_
  | refine iIf ?_
  | refine ifT ?_
  | refine ifF ?_
  | refine iMt ?_
  | refine ifNT ?_
  | fail "stuck")
theorem Gw.sm {w : Wk} {n d : Nat} (h : Gw w n d) : smD (toD w) = true := sm_toD (by decide) w h.ok
theorem Gw.dp {w : Wk} {n d : Nat} (h : Gw w n d) : depD (toD w) ≤ 2 * d := by rw [dep_toD]; have := dpW2 w; have := h.d; omega
theorem Gw.wt {w : Wk} {n d : Nat} (h : Gw w n d) : wtD (toD w) ≤ 100 * n := by have := wtW w; have := h.c; omega
theorem eq_rl {p : Addr} {l b : List D} {G : GH} {Q : DK} (e : G p = some (.lst l)) (h1 : okD (.lst l)) (h2 : okD (.lst b)) (h : Q (.bl (eqvD (.lst l) (.lst b))) G) : rCmp id (.ref p) (.lst b) G Q := by
  unfold rCmp vw
  dsimp only
  rw [e]
  exact ⟨h1, h2, h⟩
theorem ne_rl {p : Addr} {l b : List D} {G : GH} {Q : DK} (e : G p = some (.lst l)) (h1 : okD (.lst l)) (h2 : okD (.lst b)) (h : Q (.bl (!eqvD (.lst l) (.lst b))) G) : rCmp not (.ref p) (.lst b) G Q := by
  unfold rCmp vw
  dsimp only
  rw [e]
  exact ⟨h1, h2, h⟩
theorem ok_bls (a b c d : Bool) : okD (.lst [.bl a, .bl b, .bl c, .bl d]) := ⟨by simp [pureD, pureDs], by simp [depD, depDs]⟩
theorem ct_use : (("NotUsable", ["NotUsable", "WorkError", "BarError"], ["word", "at"]) : Str × List Str × List Str) ∈ CT := by decide +kernel
theorem heard_use {α : Dl.Act} {w : Str} {k : Int} {G : GH} {Q : DK} (h : ∀ (E' : DXK) (Q' : DK), (∀ G', Grow G G' → E' (nuA w k) G') → α.tl E' G Q') (hq : ∀ G', Grow G G' → Q (.tup [.str "use", .str w, .int k]) G') :
    r_law_heard α { nx := fun _ G' => Q .non G', rt := Q } [some α.d, none, none, none] G := by
  unfold r_law_heard
  walk_at "ds"
  refine h _ _ fun G1 g1 => ?_
  refine ⟨⟨_, _, ct_use, by decide +kernel⟩, fun a d => ?_⟩
  walk_at "ds"
  refine ⟨⟨_, _, rfl⟩, _, _, ct_use, by decide +kernel, ?_⟩
  walk_at "ds"
  refine ⟨⟨_, _, rfl⟩, _, _, ct_use, by decide +kernel, ?_⟩
  rw [show (["NotUsable", "WorkError", "BarError"] : List Str).contains "PaperError" = false from by decide +kernel, show (["NotUsable", "WorkError", "BarError"] : List Str).contains "WorkError" = true from by decide +kernel]
  walk_at "ds"
  intro p hp
  walk_at "ds"
  refine ⟨⟨_, _, rfl⟩, _, _, ct_use, by decide +kernel, ?_⟩
  walk_at "ds"
  refine ⟨⟨_, _, rfl⟩, _, _, ct_use, by decide +kernel, ?_⟩
  rw [show (["NotUsable", "WorkError", "BarError"] : List Str).contains "LiveError" = false from by decide +kernel, show (["NotUsable", "WorkError", "BarError"] : List Str).contains "TextError" = false from by decide +kernel]
  walk_at "ds"
  refine ext_i (m := [.bl false, .bl false]) updG_same rfl (by decide) ?_
  walk_at "ds"
  refine eq_rl (l := [.bl false, .bl true, .bl false, .bl false]) updG_same (ok_bls ..) (ok_bls ..) ?_
  rw [show eqvD (.lst [.bl false, .bl true, .bl false, .bl false]) (.lst [.bl true, .bl false, .bl false, .bl false]) = false from by decide +kernel]
  walk_at "ds"
  refine eq_rl (l := [.bl false, .bl true, .bl false, .bl false]) updG_same (ok_bls ..) (ok_bls ..) ?_
  rw [show eqvD (.lst [.bl false, .bl true, .bl false, .bl false]) (.lst [.bl false, .bl false, .bl false, .bl true]) = false from by decide +kernel]
  walk_at "ds"
  refine ne_rl (l := [.bl false, .bl true, .bl false, .bl false]) updG_same (ok_bls ..) (ok_bls ..) ?_
  rw [show eqvD (.lst [.bl false, .bl true, .bl false, .bl false]) (.lst [.bl false, .bl true, .bl false, .bl false]) = true from by decide +kernel]
  walk_at "ds"
  refine ⟨⟨_, _, rfl⟩, _, _, ct_use, by decide +kernel, ?_⟩
  rw [show (["NotUsable", "WorkError", "BarError"] : List Str).contains "NotNext" = false from by decide +kernel]
  walk_at "ds"
  refine ⟨⟨_, _, rfl⟩, _, _, ct_use, by decide +kernel, ?_⟩
  rw [show (["NotUsable", "WorkError", "BarError"] : List Str).contains "NotUsable" = true from by decide +kernel]
  walk_at "ds"
  refine ⟨_, _, _, rfl, ⟨_, _, ct_use, by simp⟩, rfl, ?_⟩
  walk_at "ds"
  refine ⟨_, _, _, rfl, ⟨_, _, ct_use, by simp⟩, rfl, ?_⟩
  walk_at "ds"
  refine hq _ ?_
  rw [updG_updG]
  exact g1.trans (Grow.upd hp)
end K03

namespace K18
open PySem L2 Dl
def r_is_integer : DTS :=
  (dRet (dAndV (dIsi "int" (dVar 0)) (dNotV (dIsi "bool" (dVar 0)))))

def r_is_number (sp_is_integer : DSp) : DTS :=
  (dRet (dAndV (dCall sp_is_integer (dCons (dVar 0) dNil)) (dOp rGe (dVar 0) (dC (.int 0)))))

def r_is_sided : DTS :=
  (dRet (dAndV (dIsi "tuple" (dVar 0)) (dAndV (dOp rEqv (dCB rLen (dCons (dVar 0) dNil)) (dC (.int 2))) (dAndV (dIsi "str" (dOp rIx (dVar 0) (dC (.int 0)))) (dOp (rInn id) (dOp rIx (dVar 0) (dC (.int 0))) (dC (.tup [.str "left", .str "right"])))))))

def r_is_sign (sp_is_number : DSp) (sp_is_sided : DSp) : DTS :=
  (dSeq (dWhile (dTru (dCall sp_is_sided (dCons (dVar 0) dNil)))
  (dAsg (dOp rIx (dVar 0) (dC (.int 1))) (gNm 0)))
  (dSeq (dIfS (dTru (dIsi "str" (dVar 0)))
  (dRet (dOp (rInn id) (dVar 0) (dC (.tup [.str "tick", .str "more", .str "end"]))))
  dNext)
  (dSeq (dIfS (dOr (dNot (dTru (dIsi "tuple" (dVar 0)))) (dOr (dTst (dOp rNev (dCB rLen (dCons (dVar 0) dNil)) (dC (.int 2)))) (dNot (dTru (dIsi "str" (dOp rIx (dVar 0) (dC (.int 0))))))))
  (dRet (dC (.bl false)))
  dNext)
  (dRet (dAndV (dOp (rInn id) (dOp rIx (dVar 0) (dC (.int 0))) (dC (.tup [.str "many", .str "way"]))) (dCall sp_is_number (dCons (dOp rIx (dVar 0) (dC (.int 1))) dNil)))))))

def r_is_signs (sp_is_sign : DSp) : DTS :=
  (dRet (dAndV (dIsi "tuple" (dVar 0)) (dCB rAllC (dCons (dFrz (dLc (iSq (dVar 0)) (.one 1) dYes (dCall sp_is_sign (dCons (dVar 1) dNil)) [1])) dNil))))

end K18

namespace K17
open PySem L2 Dl
end K17

namespace K17
open PySem L2 Dl 
local macro_rules | `(tactic| walk_at "ds") => `(tactic| repeat' with_reducible first
  | refine iVar (by with_unfolding_all rfl) ?_
  | refine iCons ?_
  | refine iNil ?_
  | refine iC ?_
  | refine iOp ?_
  | refine iSeq ?_
  | refine iAsg ?_
  | refine iGNm ?_
  | refine iTup ?_
  | refine iFrz ?_
  | refine iTst ?_
  | refine iIfS ?_
  | refine iRet ?_
  | refine iCall ?_
  | refine iLst ?_
  | refine iNext ?_
  | refine iDrop ?_
  | refine iPar ?_
  | refine lenOk (by with_unfolding_all rfl) ?_
  | refine frzEnd ?_
  | refine iAnd ?_
  | refine iIf ?_
  | refine ifT ?_
  | refine ifF ?_
  | refine iCB ?_
  | refine iMt ?_
  | refine iFor ?_
  | refine iISq ?_
  | refine rIx_i (by with_unfolding_all rfl) (by with_unfolding_all rfl) ?_
  | refine rIx_i (by with_unfolding_all rfl) atI_0 ?_
  | refine eq_strT ?_
  | refine eq_strF (by with_unfolding_all rfl) ?_
  | refine ne_strT ?_
  | refine ne_strF (by with_unfolding_all rfl) ?_
  | refine eq_ii ?_
  | fail "stuck")
end K17

namespace K17
open PySem L2 Dl 
local macro_rules | `(tactic| walk_at "ds") => `(tactic| repeat' with_reducible first
  | refine iVar (by with_unfolding_all rfl) ?_
  | refine iCons ?_
  | refine iNil ?_
  | refine iC ?_
  | refine iOp ?_
  | refine iSeq ?_
  | refine iAsg ?_
  | refine iGNm ?_
  | refine iTup ?_
  | refine iFrz ?_
  | refine iTst ?_
  | refine iIfS ?_
  | refine iRet ?_
  | refine iCall ?_
  | refine iLst ?_
  | refine iNext ?_
  | refine iDrop ?_
  | refine iPar ?_
  | refine lenOk (by with_unfolding_all rfl) ?_
  | refine frzEnd ?_
  | refine lstC_t ?_
  | refine iAnd ?_
  | refine iIf ?_
  | refine ifT ?_
  | refine ifF ?_
  | refine iCB ?_
  | refine iMt ?_
  | refine iFor ?_
  | refine iISq ?_
  | refine rIx_i (by with_unfolding_all rfl) (by with_unfolding_all rfl) ?_
  | refine rIx_i (by with_unfolding_all rfl) atI_0 ?_
  | refine eq_strT ?_
  | refine eq_strF (by with_unfolding_all rfl) ?_
  | refine ne_strT ?_
  | refine ne_strF (by with_unfolding_all rfl) ?_
  | refine eq_ii ?_
  | fail "stuck")
end K17

namespace K17
open PySem L2 Dl 
local macro_rules | `(tactic| walk_at "ds") => `(tactic| repeat' with_reducible first
  | refine iVar (by with_unfolding_all rfl) ?_
  | refine iCons ?_
  | refine iNil ?_
  | refine iC ?_
  | refine iOp ?_
  | refine iSeq ?_
  | refine iAsg ?_
  | refine iGNm ?_
  | refine iTup ?_
  | refine iFrz ?_
  | refine iTst ?_
  | refine iIfS ?_
  | refine iRet ?_
  | refine iCall ?_
  | refine iLst ?_
  | refine iNext ?_
  | refine lenOk (by with_unfolding_all rfl) ?_
  | refine frzEnd ?_
  | refine iTru ?_
  | refine truB ?_
  | refine iIf ?_
  | refine ifT ?_
  | refine ifF ?_
  | refine iCB ?_
  | refine eq_ii ?_
  | refine add_ii ?_
  | refine int0 ?_
  | refine max2_ii ?_
  | refine iIRg2 ?_
  | refine add_llb (by with_unfolding_all rfl) ?_
  | fail "stuck")
end K17

namespace K17
open PySem L2 Dl 
local macro_rules | `(tactic| walk_at "ds") => `(tactic| repeat' with_reducible first
  | refine iVar (by with_unfolding_all rfl) ?_
  | refine iCons ?_
  | refine iNil ?_
  | refine iC ?_
  | refine iOp ?_
  | refine iSeq ?_
  | refine iAsg ?_
  | refine iGNm ?_
  | refine iTup ?_
  | refine iFrz ?_
  | refine iTst ?_
  | refine iRet ?_
  | refine iCall ?_
  | refine iLst ?_
  | refine lenOk (by with_unfolding_all rfl) ?_
  | refine frzEnd ?_
  | refine slT ?_
  | refine iIf ?_
  | refine ifT ?_
  | refine ifF ?_
  | refine iCB ?_
  | refine iSl ?_
  | refine iP ?_
  | refine iNoP ?_
  | refine iStar ?_
  | refine iMatch ?_
  | refine iISq ?_
  | refine rIx_i (by with_unfolding_all rfl) (by with_unfolding_all rfl) ?_
  | refine rIx_i (by with_unfolding_all rfl) atI_0 ?_
  | refine caT ?_
  | refine caF (by with_unfolding_all rfl) ?_
  | refine caN ?_
  | refine int0 ?_
  | refine tupC_l ?_
  | refine iIEnT ?_
  | fail "stuck")
end K17

namespace K17
open PySem L2 Dl 
local macro_rules | `(tactic| walk_at "ds") => `(tactic| repeat' with_reducible first
  | refine iVar (by with_unfolding_all rfl) ?_
  | refine iCons ?_
  | refine iNil ?_
  | refine iC ?_
  | refine iOp ?_
  | refine iSeq ?_
  | refine iAsg ?_
  | refine iGNm ?_
  | refine iTup ?_
  | refine iFrz ?_
  | refine iTst ?_
  | refine iIfS ?_
  | refine iRet ?_
  | refine iCall ?_
  | refine iLst ?_
  | refine iNext ?_
  | refine iDGet ?_
  | refine lenOk (by with_unfolding_all rfl) ?_
  | refine frzEnd ?_
  | refine iTru ?_
  | refine truB ?_
  | refine iAnd ?_
  | refine iIf ?_
  | refine ifT ?_
  | refine ifF ?_
  | refine iCB ?_
  | refine iISq ?_
  | refine rIx_i (by with_unfolding_all rfl) (by with_unfolding_all rfl) ?_
  | refine rIx_i (by with_unfolding_all rfl) atI_0 ?_
  | refine eq_strT ?_
  | refine eq_strF (by with_unfolding_all rfl) ?_
  | refine eq_ii ?_
  | refine add_ii ?_
  | refine int0 ?_
  | refine len_t ?_
  | refine intC_b ?_
  | refine keyP_s ?_
  | refine iIRg1 ?_
  | refine iIRg2 ?_
  | refine add_llb (by with_unfolding_all rfl) ?_
  | refine inn_T (by with_unfolding_all rfl) (by decide +kernel) (by decide +kernel) (by decide +kernel) ?_
  | refine inn_F (by with_unfolding_all rfl) (by decide +kernel) (by decide +kernel) (by decide +kernel) ?_
  | refine iPsC ?_
  | refine iPsN ?_
  | fail "stuck")
end K17

namespace K17
open PySem L2 Dl 
local macro_rules | `(tactic| walk_at "ds") => `(tactic| repeat' with_reducible first
  | refine iVar (by with_unfolding_all rfl) ?_
  | refine iCons ?_
  | refine iNil ?_
  | refine iC ?_
  | refine iOp ?_
  | refine iSeq ?_
  | refine iAsg ?_
  | refine iGNm ?_
  | refine iTup ?_
  | refine iFrz ?_
  | refine iTst ?_
  | refine iIfS ?_
  | refine iRet ?_
  | refine iCall ?_
  | refine iNext ?_
  | refine lenOk (by with_unfolding_all rfl) ?_
  | refine slT ?_
  | refine iTru ?_
  | refine truB ?_
  | refine iAnd ?_
  | refine iOr ?_
  | refine iIf ?_
  | refine ifT ?_
  | refine ifF ?_
  | refine iCB ?_
  | refine iSl ?_
  | refine iP ?_
  | refine iNoP ?_
  | refine iIsi ?_
  | refine iISq ?_
  | refine rIx_i (by with_unfolding_all rfl) (by with_unfolding_all rfl) ?_
  | refine rIx_i (by with_unfolding_all rfl) atI_0 ?_
  | refine eq_strT ?_
  | refine eq_strF (by with_unfolding_all rfl) ?_
  | refine add_ii ?_
  | refine int0 ?_
  | refine intC_b ?_
  | refine max2_ii ?_
  | refine inn_T (by with_unfolding_all rfl) (by decide +kernel) (by decide +kernel) (by decide +kernel) ?_
  | refine inn_F (by with_unfolding_all rfl) (by decide +kernel) (by decide +kernel) (by decide +kernel) ?_
  | refine isi_T (by with_unfolding_all rfl) (by decide +kernel) ?_
  | refine isi_F (by with_unfolding_all rfl) (by decide +kernel) ?_
  | fail "stuck")
end K17

namespace K17
open PySem L2 Dl 
local macro_rules | `(tactic| walk_at "ds") => `(tactic| repeat' with_reducible first
  | refine iVar (by with_unfolding_all rfl) ?_
  | refine iCons ?_
  | refine iNil ?_
  | refine iC ?_
  | refine iOp ?_
  | refine iSeq ?_
  | refine iAsg ?_
  | refine iGNm ?_
  | refine iFrz ?_
  | refine iTst ?_
  | refine iIfS ?_
  | refine iRet ?_
  | refine iLst ?_
  | refine iNext ?_
  | refine iDGet ?_
  | refine iGSb ?_
  | refine lenOk (by with_unfolding_all rfl) ?_
  | refine frzEnd ?_
  | refine iAnd ?_
  | refine ifT ?_
  | refine ifF ?_
  | refine iCB ?_
  | refine rIx_i (by with_unfolding_all rfl) (by with_unfolding_all rfl) ?_
  | refine rIx_i (by with_unfolding_all rfl) atI_0 ?_
  | refine add_ii ?_
  | refine int0 ?_
  | refine len_l ?_
  | refine intC_i ?_
  | refine keyP_s ?_
  | fail "stuck")
def feedKv (cs : List Int) (at_ lf tn : Int) : List (Key × D) := [(.inr "cells", .lst (cs.map D.int)), (.inr "at", .int at_), (.inr "left", .int lf), (.inr "turn", .int tn)]
def FeedOk (G : GH) (a : Addr) : Prop := ∃ cs at_ lf tn, G a = some (.dct (feedKv cs at_ lf tn))
def KeepX (a : Addr) (G G' : GH) : Prop := ∀ b o, b ≠ a → G b = some o → G' b = some o
theorem FeedOk.keep {a b : Addr} {G G' : GH} (h : FeedOk G a) (hn : a ≠ b) (k : KeepX b G G') : FeedOk G' a := by
  obtain ⟨c, x, y, z, e⟩ := h
  exact ⟨c, x, y, z, k _ _ hn e⟩
end K17

namespace K17
open PySem L2 Dl 
local macro_rules | `(tactic| walk_at "ds") => `(tactic| repeat' with_reducible first
  | refine iVar (by with_unfolding_all rfl) ?_
  | refine iCons ?_
  | refine iNil ?_
  | refine iC ?_
  | refine iOp ?_
  | refine iSeq ?_
  | refine iAsg ?_
  | refine iGNm ?_
  | refine iTup ?_
  | refine iFrz ?_
  | refine iRet ?_
  | refine iCall ?_
  | refine lenOk (by with_unfolding_all rfl) ?_
  | refine frzEnd ?_
  | refine lstC_l ?_
  | refine iCB ?_
  | refine iSl ?_
  | refine iP ?_
  | refine iNoP ?_
  | refine iISq ?_
  | refine rIx_i (by with_unfolding_all rfl) (by with_unfolding_all rfl) ?_
  | refine rIx_i (by with_unfolding_all rfl) atI_0 ?_
  | refine len_l ?_
  | refine iPsC ?_
  | refine iPsN ?_
  | fail "stuck")
end K17

namespace K17
open PySem L2 Dl 
local macro_rules | `(tactic| walk_at "ds") => `(tactic| repeat' with_reducible first
  | refine iVar (by with_unfolding_all rfl) ?_
  | refine iCons ?_
  | refine iNil ?_
  | refine iC ?_
  | refine iOp ?_
  | refine iCall ?_
  | refine int0 ?_
  | refine iIRg1 ?_
  | fail "stuck")
def zz : Nat → Nat
  | 0 => 2
  | n + 1 => 4 * zz n + 6
theorem zz_two (n : Nat) : 2 ≤ zz n := by induction n with
  | zero => simp [zz]
  | succ n ih => simp only [zz]; omega
structure JobOk (n : Nat) (w : Wk) : Prop where
  ok : okW 12 w
  z : zW w ≤ zz n
  dp : dpW w ≤ 2 + 2 * n
  p : pW w ≤ 3 + 4 * n
theorem JobOk.tick {n : Nat} {m : Int} (h1 : 1 ≤ m) (h2 : m ≤ 12) : JobOk n (.tick m) := ⟨by rw [okW]; omega, by rw [zW]; exact zz_two n, by rw [dpW]; omega, by rw [pW]; omega⟩
theorem JobOk.sme {n : Nat} {a b : Int} {t : Bool} (h1 : 0 ≤ a) (h2 : a ≤ b) (h3 : b ≤ 12) : JobOk n (.sme a b t) := ⟨by rw [okW]; omega, by rw [zW]; exact zz_two n, by rw [dpW]; omega, by rw [pW]; omega⟩
theorem JobOk.lop {n : Nat} {a b : Int} {t : Bool} {w : Wk} (h1 : 0 ≤ a) (h2 : a ≤ b) (h3 : b ≤ 3) (h : JobOk n w) : JobOk (n + 1) (.lop a b t w) := by
  obtain ⟨h4, h5, h6, h7⟩ := h
  refine ⟨by rw [okW]; exact ⟨h1, h2, by omega, h4⟩, ?_, by rw [dpW]; omega, by rw [pW]; omega⟩
  have : (b.toNat + 1) * (zW w + 1) ≤ 4 * (zz n + 1) := Nat.mul_le_mul (by omega) (by omega)
  rw [zW, zz]; omega
theorem jobs_all {n : Nat} : ∀ {ws : List Wk}, (∀ w ∈ ws, JobOk n w) → okWs 12 ws ∧ zWs ws ≤ ws.length * zz n ∧ dpWs ws ≤ 2 + 2 * n ∧ pWs ws ≤ 3 + 4 * n
  | [], _ => ⟨by simp [okWs], by simp [zWs], by simp [dpWs], by simp only [pWs]; omega⟩
  | w :: ws, h => by
    obtain ⟨h1, h2, h3, h4⟩ := h w (List.mem_cons_self ..)
    obtain ⟨g1, g2, g3, g4⟩ := jobs_all fun x hx => h x (List.mem_cons_of_mem _ hx)
    exact ⟨by rw [okWs]; exact ⟨h1, g1⟩, by rw [zWs, List.length_cons, Nat.succ_mul]; omega, by rw [dpWs]; omega, by rw [pWs]; omega⟩
theorem JobOk.row {n : Nat} {ws : List Wk} (h : ∀ w ∈ ws, JobOk n w) (hl : ws.length ≤ 3) : JobOk (n + 1) (.row ws) := by
  obtain ⟨g1, g2, g3, g4⟩ := jobs_all h
  have : ws.length * zz n ≤ 3 * zz n := Nat.mul_le_mul_right _ hl
  exact ⟨by rw [okW]; exact g1, by rw [zW, zz]; omega, by rw [dpW]; omega, by rw [pW]; omega⟩
theorem JobOk.eit {n : Nat} {ws : List Wk} (h : ∀ w ∈ ws, JobOk n w) (hl : ws.length ≤ 3) (h0 : ws ≠ []) : JobOk (n + 1) (.eit ws) := by
  obtain ⟨g1, g2, g3, g4⟩ := jobs_all h
  have : ws.length * zz n ≤ 3 * zz n := Nat.mul_le_mul_right _ hl
  exact ⟨by rw [okW]; exact ⟨h0, g1⟩, by rw [zW, zz]; omega, by rw [dpW]; omega, by rw [pW]; omega⟩
theorem JobOk.bes {n : Nat} {a b : Wk} (h : JobOk n a) (k : JobOk n b) : JobOk (n + 1) (.bes a b) := by
  obtain ⟨g1, g2, g3, g4⟩ := h
  obtain ⟨k1, k2, k3, k4⟩ := k
  exact ⟨by rw [okW]; exact ⟨g1, k1⟩, by rw [zW, zz]; omega, by rw [dpW]; omega, by rw [pW]; omega⟩
end K17

namespace K17
open PySem L2 Dl 
local macro_rules | `(tactic| walk_at "ds") => `(tactic| repeat' with_reducible first
  | refine iVar (by with_unfolding_all rfl) ?_
  | refine iCons ?_
  | refine iNil ?_
  | refine iC ?_
  | refine iOp ?_
  | refine iSeq ?_
  | refine iAsg ?_
  | refine iGNm ?_
  | refine iTup ?_
  | refine iFrz ?_
  | refine iTst ?_
  | refine iIfS ?_
  | refine iRet ?_
  | refine iCall ?_
  | refine iNext ?_
  | refine iPar ?_
  | refine iGTp (by with_unfolding_all rfl) ?_
  | refine iGsCons ?_
  | refine iGsNil ?_
  | refine iGSb ?_
  | refine lenOk (by with_unfolding_all rfl) ?_
  | refine iTru ?_
  | refine truB ?_
  | refine iAnd ?_
  | refine iOr ?_
  | refine iNot ?_
  | refine iAndVK ?_
  | refine andVT ?_
  | refine andVF ?_
  | refine andVDT (by decide) ?_
  | refine andVDF (by decide) ?_
  | refine ifDT (by decide) ?_
  | refine ifDF (by decide) ?_
  | refine iNotV ?_
  | refine iIf ?_
  | refine ifT ?_
  | refine ifF ?_
  | refine iCB ?_
  | refine rIx_i (by with_unfolding_all rfl) (by with_unfolding_all rfl) ?_
  | refine rIx_i (by with_unfolding_all rfl) atI_0 ?_
  | refine eq_ii ?_
  | refine add_ii ?_
  | refine int0 ?_
  | refine tupC_l ?_
  | refine min2_ii ?_
  | refine inn_T (by with_unfolding_all rfl) (by decide +kernel) (by decide +kernel) (by decide +kernel) ?_
  | refine inn_F (by with_unfolding_all rfl) (by decide +kernel) (by decide +kernel) (by decide +kernel) ?_
  | fail "stuck")
end K17

namespace K17
open PySem L2 Dl 
local macro_rules | `(tactic| walk_at "ds") => `(tactic| repeat' with_reducible first
  | refine iVar (by with_unfolding_all rfl) ?_
  | refine iCons ?_
  | refine iNil ?_
  | refine iC ?_
  | refine iOp ?_
  | refine iSeq ?_
  | refine iAsg ?_
  | refine iGNm ?_
  | refine iFrz ?_
  | refine iTst ?_
  | refine iIfS ?_
  | refine iRet ?_
  | refine iCall ?_
  | refine iLst ?_
  | refine iNext ?_
  | refine iPar ?_
  | refine lenOk (by with_unfolding_all rfl) ?_
  | refine frzEnd ?_
  | refine iTru ?_
  | refine truB ?_
  | refine iAndVK ?_
  | refine andVT ?_
  | refine iIf ?_
  | refine ifT ?_
  | refine ifF ?_
  | refine iCB ?_
  | refine rIx_i (by with_unfolding_all rfl) (by with_unfolding_all rfl) ?_
  | refine rIx_i (by with_unfolding_all rfl) atI_0 ?_
  | refine eq_strT ?_
  | refine ne_strT ?_
  | refine tupC_l ?_
  | fail "stuck")
mutual
theorem okW_mono {A B : Int} (h : A ≤ B) : ∀ w : Wk, okW A w → okW B w
  | .tick _, k => by rw [okW] at *; omega
  | .sme _ _ _, k => by rw [okW] at *; omega
  | .lop _ _ _ w, k => by rw [okW] at *; exact ⟨k.1, k.2.1, by omega, okW_mono h w k.2.2.2⟩
  | .eit ws, k => by rw [okW] at *; exact ⟨k.1, okWs_mono h ws k.2⟩
  | .row ws, k => by rw [okW] at *; exact okWs_mono h ws k
  | .bes a b, k => by rw [okW] at *; exact ⟨okW_mono h a k.1, okW_mono h b k.2⟩
theorem okWs_mono {A B : Int} (h : A ≤ B) : ∀ ws : List Wk, okWs A ws → okWs B ws
  | [], _ => by simp [okWs]
  | w :: ws, k => by rw [okWs] at *; exact ⟨okW_mono h w k.1, okWs_mono h ws k.2⟩
end
structure Bd (w : Wk) : Prop where
  ok : okW 12 w
  z : zW w ≤ 270
  p : pW w ≤ 16
  dp : dpW w ≤ 20
theorem Bd.o {w : Wk} (h : Bd w) : okW 999 w := okW_mono (by decide) w h.ok
theorem Bd.tidy {w : Wk} (h : Bd w) : Bd (tidyW w) ∧ dpW (tidyW w) ≤ 16 := by
  have h1 := tidy_z w
  have h2 := tidy_p w
  have h3 := tidy_dp_p w
  obtain ⟨a, b, c, d⟩ := h
  exact ⟨⟨tidy_ok w a, by omega, by omega, by omega⟩, by omega⟩
theorem Bd.beh {w : Wk} {s : Sg} (h : Bd w) (hd : dpW w ≤ 16) (hs : s ∈ nxW w) : Bd (behW w s) := by
  obtain ⟨a, b, c, d⟩ := h
  obtain ⟨e, f, g, i⟩ := beh_ok (B := 12) w s a hs
  exact ⟨e, by omega, by omega, by omega⟩
theorem Bd.after {w : Wk} {s : Sg} (h : Bd w) (hd : dpW w ≤ 16) (hs : s ∈ nxW w) : Bd (tidyW (behW w s)) ∧ dpW (tidyW (behW w s)) ≤ 16 := (h.beh hd hs).tidy
theorem Bd.sm {w : Wk} (h : Bd w) : smD (toD w) = true := sm_toD (B := 999) (by decide) w h.o
theorem Bd.wt {w : Wk} (h : Bd w) : wtD (toD w) ≤ 16200 := by have := wt_toD w; have := h.z; omega
theorem JobOk.bd {w : Wk} (h : JobOk 3 w) : Bd w := by
  obtain ⟨a, b, c, d⟩ := h
  have : zz 3 = 254 := by decide
  exact ⟨a, by omega, by omega, by omega⟩
end K17

namespace K17
open PySem L2 Dl 
local macro_rules | `(tactic| walk_at "ds") => `(tactic| repeat' with_reducible first
  | refine iVar (by with_unfolding_all rfl) ?_
  | refine iCons ?_
  | refine iNil ?_
  | refine iC ?_
  | refine iOp ?_
  | refine iSeq ?_
  | refine iAsg ?_
  | refine iGNm ?_
  | refine iTup ?_
  | refine iFrz ?_
  | refine iTst ?_
  | refine iIfS ?_
  | refine iRet ?_
  | refine iCall ?_
  | refine iLst ?_
  | refine iNext ?_
  | refine iDrop ?_
  | refine iGTp (by with_unfolding_all rfl) ?_
  | refine iGsCons ?_
  | refine iGsNil ?_
  | refine iGSb ?_
  | refine lenOk (by with_unfolding_all rfl) ?_
  | refine frzEnd ?_
  | refine iAnd ?_
  | refine iAndVK ?_
  | refine ifT ?_
  | refine ifF ?_
  | refine iCB ?_
  | refine iMt ?_
  | refine iFor ?_
  | refine iISq ?_
  | refine add_ii ?_
  | refine int0 ?_
  | refine iPsC ?_
  | refine iPsN ?_
  | fail "stuck")
def itD (q : Int × Wk) : D := .tup [.int q.1, toD q.2]
structure PileOk (k : Nat) (items : List (Int × Wk)) : Prop where
  all : ∀ q ∈ items, 0 ≤ q.1 ∧ q.1 ≤ k ∧ Bd q.2 ∧ dpW q.2 ≤ 16
structure Pl (G0 : GH) (p1 p2 : Addr) (k : Nat) (G : GH) : Prop where
  ex : ∃ items kvs, G p1 = some (.lst (items.map itD)) ∧ G p2 = some (.dct kvs) ∧ items.length + k = kvs.length ∧ PileOk k items ∧ kvs.length ≤ 100000 + 2000 * k
  gr : Grow G0 G
end K17

namespace K17
open PySem L2 Dl 
local macro_rules | `(tactic| walk_at "ds") => `(tactic| repeat' with_reducible first
  | refine iVar (by with_unfolding_all rfl) ?_
  | refine iCons ?_
  | refine iNil ?_
  | refine iC ?_
  | refine iOp ?_
  | refine iSeq ?_
  | refine iAsg ?_
  | refine iGNm ?_
  | refine iTup ?_
  | refine iFrz ?_
  | refine iTst ?_
  | refine iIfS ?_
  | refine iRet ?_
  | refine iCall ?_
  | refine iLst ?_
  | refine iNext ?_
  | refine iDrop ?_
  | refine iGTp (by with_unfolding_all rfl) ?_
  | refine iGsCons ?_
  | refine iGsNil ?_
  | refine lenOk (by with_unfolding_all rfl) ?_
  | refine frzEnd ?_
  | refine lstC_t ?_
  | refine iTru ?_
  | refine truB ?_
  | refine iNot ?_
  | refine iCB ?_
  | refine iMt ?_
  | refine iFor ?_
  | refine iISq ?_
  | refine iIRg1 ?_
  | fail "stuck")
end K17

namespace K18
open PySem L2 Dl K17
local macro_rules | `(tactic| walk_at "ds") => `(tactic| repeat' with_reducible first
  | refine iVar (by with_unfolding_all rfl) ?_
  | refine iCons ?_
  | refine iNil ?_
  | refine iC ?_
  | refine iOp ?_
  | refine iSeq ?_
  | refine iAsg ?_
  | refine iGNm ?_
  | refine iFrz ?_
  | refine iTst ?_
  | refine iIfS ?_
  | refine iRet ?_
  | refine iCall ?_
  | refine iNext ?_
  | refine iTru ?_
  | refine truB ?_
  | refine iOr ?_
  | refine iNot ?_
  | refine iAndVK ?_
  | refine andVT ?_
  | refine andVF ?_
  | refine andVDT (by decide) ?_
  | refine andVDF (by decide) ?_
  | refine iNotV ?_
  | refine ifT ?_
  | refine ifF ?_
  | refine iCB ?_
  | refine iIsi ?_
  | refine iISq ?_
  | refine rIx_i (by with_unfolding_all rfl) (by with_unfolding_all rfl) ?_
  | refine rIx_i (by with_unfolding_all rfl) atI_0 ?_
  | refine eq_ii ?_
  | refine ne_ii ?_
  | refine len_t ?_
  | refine isi_T (by with_unfolding_all rfl) (by decide +kernel) ?_
  | refine isi_F (by with_unfolding_all rfl) (by decide +kernel) ?_
  | refine ifNT ?_
  | refine ifNF ?_
  | refine andVDT (by with_reducible_and_instances first | omega | (simp only [List.length_cons, List.length_nil]; omega)) ?_
  | refine andVDF (by with_reducible_and_instances first | omega | (simp only [List.length_cons, List.length_nil]; omega)) ?_
  | refine ifNDT (by with_reducible_and_instances first | omega | (simp only [List.length_cons, List.length_nil]; omega)) ?_
  | refine ifNDF (by with_reducible_and_instances first | omega | (simp only [List.length_cons, List.length_nil]; omega)) ?_
  | fail "stuck")
def isNumB : D → Bool
  | .int n => decide (0 ≤ n)
  | _ => false
def sidedB : D → Bool
  | .tup [.str x, _] => inD (.str x) [.str "left", .str "right"]
  | _ => false
def isSgB : D → Bool
  | .str x => inD (.str x) [.str "tick", .str "more", .str "end"]
  | .tup [.str x, y] => if inD (.str x) [.str "left", .str "right"] = true then isSgB y else inD (.str x) [.str "many", .str "way"] && isNumB y
  | _ => false
def R1 (f : D → Bool) : List D → D → Prop := fun ds d => ∃ x, ds = [x] ∧ cleanD x = true ∧ d = .bl (f x)
def isIntB : D → Bool
  | .int _ => true
  | _ => false
theorem is_integer_rd : ∀ ds G Q E, pSp (R1 isIntB) ds G Q E → r_is_integer { nx := fun _ G' => Q .non G', rt := Q } (startD 1 ds) G := by
  rintro ds G Q E ⟨d, ⟨x, rfl, hc, rfl⟩, hq⟩
  unfold r_is_integer
  have e := hq G (Grow.refl G)
  cases x with
  | byt _ => simp [cleanD] at hc
  | ref _ => simp [cleanD] at hc
  | scr _ => simp [cleanD] at hc
  | fn _ _ _ _ => simp [cleanD] at hc
  | exh _ _ _ _ _ => simp [cleanD] at hc
  | _ => walk_at "ds"; exact e
theorem is_number_rd : ∀ ds G Q E, pSp (R1 isNumB) ds G Q E → r_is_number (pSp (R1 isIntB)) { nx := fun _ G' => Q .non G', rt := Q } (startD 1 ds) G := by
  rintro ds G Q E ⟨d, ⟨x, rfl, hc, rfl⟩, hq⟩
  unfold r_is_number
  walk_at "ds"
  refine ⟨_, ⟨x, rfl, hc, rfl⟩, fun G1 g1 => ?_⟩
  have e := hq G1 g1
  cases x with
  | byt _ => simp [cleanD] at hc
  | ref _ => simp [cleanD] at hc
  | scr _ => simp [cleanD] at hc
  | fn _ _ _ _ => simp [cleanD] at hc
  | exh _ _ _ _ _ => simp [cleanD] at hc
  | int n => walk_at "ds"; exact e
  | _ => walk_at "ds"; exact e
theorem is_sided_rd : ∀ ds G Q E, pSp (R1 sidedB) ds G Q E → r_is_sided { nx := fun _ G' => Q .non G', rt := Q } (startD 1 ds) G := by
  rintro ds G Q E ⟨d, ⟨x, rfl, hc, rfl⟩, hq⟩
  unfold r_is_sided
  have e := hq G (Grow.refl G)
  cases x with
  | byt _ => simp [cleanD] at hc
  | ref _ => simp [cleanD] at hc
  | scr _ => simp [cleanD] at hc
  | fn _ _ _ _ => simp [cleanD] at hc
  | exh _ _ _ _ _ => simp [cleanD] at hc
  | tup l =>
    match l with
    | [] => walk_at "ds"; exact e
    | [a] => walk_at "ds"; cases a <;> exact e
    | a :: b :: c :: r =>
      walk_at "ds"
      cases a <;> exact e
    | [a, b] =>
      rw [cleanD, cleanDs, Bool.and_eq_true] at hc
      cases a with
      | byt _ => simp [cleanD] at hc
      | ref _ => simp [cleanD] at hc
      | scr _ => simp [cleanD] at hc
      | fn _ _ _ _ => simp [cleanD] at hc
      | exh _ _ _ _ _ => simp [cleanD] at hc
      | str x =>
        walk_at "ds"
        refine inn_i (by with_unfolding_all rfl) (by rfl) (by rfl) ?_
        exact e
      | _ => walk_at "ds"; exact e
  | _ => walk_at "ds"; exact e
theorem is_sign_rd : ∀ ds G Q E, pSp (R1 isSgB) ds G Q E → r_is_sign (pSp (R1 isNumB)) (pSp (R1 sidedB)) { nx := fun _ G' => Q .non G', rt := Q } (startD 1 ds) G := by
  rintro ds G Q E ⟨d, ⟨x, rfl, hc, rfl⟩, hq⟩
  unfold r_is_sign
  refine iSeq ?_
  refine dWhile_of (I := fun n ρ G1 => ∃ y, ρ = [some y] ∧ cleanD y = true ∧ depD y ≤ n ∧ isSgB y = isSgB x ∧ Grow G G1) ?_ (depD x) _ _ ⟨x, rfl, hc, Nat.le_refl _, rfl, Grow.refl _⟩
  rintro n ρ G1 ⟨y, rfl, hy, hd, hs, g1⟩ K hK
  walk_at "ds"
  refine ⟨_, ⟨y, rfl, hy, rfl⟩, fun G2 g2 => ?_⟩
  have e := hq G2 (g1.trans g2)
  rw [← hs] at e
  walk_at "ds"
  cases y with
  | byt _ => simp [cleanD] at hy
  | ref _ => simp [cleanD] at hy
  | scr _ => simp [cleanD] at hy
  | fn _ _ _ _ => simp [cleanD] at hy
  | exh _ _ _ _ _ => simp [cleanD] at hy
  | str z =>
    refine ifF ?_
    walk_at "ds"
    refine inn_i (by with_unfolding_all rfl) (by rfl) (by rfl) ?_
    exact e
  | tup l =>
    match l with
    | [] => refine ifF ?_; walk_at "ds"; exact e
    | [a] => rw [show sidedB (.tup [a]) = false from by cases a <;> rfl]; rw [show isSgB (.tup [a]) = false from by cases a <;> rfl] at e; walk_at "ds"; exact e
    | a :: b :: c :: r =>
      rw [show sidedB (.tup (a :: b :: c :: r)) = false from by cases a <;> rfl]
      rw [show isSgB (.tup (a :: b :: c :: r)) = false from by cases a <;> rfl] at e
      walk_at "ds"
      exact e
    | [a, b] =>
      rw [cleanD, cleanDs, Bool.and_eq_true, cleanDs, Bool.and_eq_true] at hy
      cases a with
      | byt _ => simp [cleanD] at hy
      | ref _ => simp [cleanD] at hy
      | scr _ => simp [cleanD] at hy
      | fn _ _ _ _ => simp [cleanD] at hy
      | exh _ _ _ _ _ => simp [cleanD] at hy
      | str z =>
        rw [show sidedB (.tup [.str z, b]) = inD (.str z) [.str "left", .str "right"] from rfl]
        have e1 : isSgB (.tup [.str z, b]) = if inD (.str z) [.str "left", .str "right"] = true then isSgB b else inD (.str z) [.str "many", .str "way"] && isNumB b := rfl
        rw [e1] at e hs
        cases hin : inD (.str z) [.str "left", .str "right"] with
        | true =>
          rw [hin, if_pos rfl] at e hs
          refine ifT ?_
          walk_at "ds"
          have hdd : depD b < n := by rw [depD, depDs, depDs, depDs] at hd; omega
          exact hK (n - 1) (by omega) _ _ ⟨b, rfl, hy.2.1, by omega, hs, g1.trans g2⟩
        | false =>
          rw [hin, if_neg (by decide)] at e
          refine ifF ?_
          walk_at "ds"
          refine inn_i (by with_unfolding_all rfl) (by rfl) (by rfl) ?_
          show andVK _ _ _ (.bl (inD (.str z) [.str "many", .str "way"])) G2
          cases hm : inD (.str z) [.str "many", .str "way"] with
          | false => rw [hm] at e; walk_at "ds"; exact e
          | true =>
            walk_at "ds"
            refine ⟨_, ⟨b, rfl, hy.2.1, rfl⟩, fun G3 g3 => ?_⟩
            have e := hq G3 ((g1.trans g2).trans g3)
            rw [← hs, hin, if_neg (by decide), hm, Bool.true_and] at e
            exact e
      | _ => refine ifF ?_; walk_at "ds"; exact e
  | _ => refine ifF ?_; walk_at "ds"; exact e
def isSgsB : D → Bool
  | .tup l => l.all isSgB
  | _ => false
def RSs : List D → D → Prop := fun ds d => ∃ x, ds = [x] ∧ cleanD x = true ∧ (∀ l, x = .tup l → l.length ≤ sizeLine) ∧ d = .bl (isSgsB x)
theorem cleanDs_iff : ∀ {ds : List D}, cleanDs ds = true ↔ ∀ d ∈ ds, cleanD d = true
  | [] => by simp [cleanDs]
  | d :: ds => by simp [cleanDs, cleanDs_iff (ds := ds)]
theorem is_signs_rd : ∀ ds G Q E, pSp RSs ds G Q E → r_is_signs (pSp (R1 isSgB)) { nx := fun _ G' => Q .non G', rt := Q } (startD 2 ds) G := by
  rintro ds G Q E ⟨d, ⟨x, rfl, hc, hl, rfl⟩, hq⟩
  unfold r_is_signs
  have e := hq
  cases x with
  | byt _ => simp [cleanD] at hc
  | ref _ => simp [cleanD] at hc
  | scr _ => simp [cleanD] at hc
  | fn _ _ _ _ => simp [cleanD] at hc
  | exh _ _ _ _ _ => simp [cleanD] at hc
  | tup l =>
    rw [cleanD, cleanDs_iff] at hc
    walk_at "ds"
    refine lcF l id (fun x => .bl (isSgB x)) ?_ (hl l rfl) ?_ ?_
    · intro P hP
      walk_at "ds"
      rw [List.map_id] at hP
      exact hP _ _ (fun _ => trivial) (Grow.refl _)
    · intro x hx
      refine ⟨_, rfl, fun G1 K hK => ?_⟩
      walk_at "ds"
      exact ⟨_, ⟨x, rfl, hc x hx, rfl⟩, fun G2 g2 => hK G2 g2⟩
    · intro G1 g1
      walk_at "ds"
      refine allC_i (bs := l.map isSgB) ?_ ?_
      · rw [show (fun x => D.bl (isSgB x)) = D.bl ∘ isSgB from rfl, ← List.map_map]; exact bolsD_map _
      · have e := hq G1 g1
        rw [isSgsB] at e
        rw [List.all_map]
        exact e
  | _ => walk_at "ds"; exact e G (Grow.refl G)
end K18

namespace K06
open PySem L2 Dl 
local macro_rules | `(tactic| walk_at "ds") => `(tactic| repeat' with_reducible first
  | refine iVar (by with_unfolding_all rfl) ?_
  | refine iCons ?_
  | refine iNil ?_
  | refine iC ?_
  | refine iOp ?_
  | refine iSeq ?_
  | refine iAsg ?_
  | refine iGNm ?_
  | refine iFrz ?_
  | refine iTst ?_
  | refine iRet ?_
  | refine iLst ?_
  | refine iXPe ?_
  | refine iXPa ?_
  | refine iXRet ?_
  | refine iXCons ?_
  | refine iXTup ?_
  | refine iDSeqTry ?_
  | refine iXAct (by with_unfolding_all rfl) ?_
  | refine lstP_i (by assumption) ?_
  | refine lstP_i updG_same ?_
  | refine iRev ?_
  | refine iDrop ?_
  | refine lenOk (by with_unfolding_all rfl) ?_
  | refine frzEnd ?_
  | refine ifDT (by decide) ?_
  | refine ifDF (by decide) ?_
  | refine iCB ?_
  | refine iMt ?_
  | refine iStar ?_
  | refine int0 ?_
  | refine len_l ?_
  | refine intC_i ?_
  | refine ifDT (by with_reducible_and_instances first | omega | (simp only [List.length_cons, List.length_nil]; omega)) ?_
  | refine ifDF (by with_reducible_and_instances first | omega | (simp only [List.length_cons, List.length_nil]; omega)) ?_
  | fail "stuck")
theorem heard_use {α : Dl.Act} {w : Str} {k : Int} {G : GH} {Q : DK} (h : ∀ (E' : DXK) (Q' : DK), (∀ G', Grow G G' → E' (K03.nuA w k) G') → α.tl E' G Q') (hq : ∀ G', Grow G G' → Q (.tup [.str "use", .str w, .int k]) G') :
    r_law_heard α { nx := fun _ G' => Q .non G', rt := Q } [some α.d, none, none, none] G := K03.heard_use h hq
theorem heard_told {α : Dl.Act} {x : D} {G : GH} {Q : DK} (h : ∀ (E' : DXK) (Q' : DK), (∀ G', Grow G G' → Q' x G') → α.tl E' G Q') (hq : ∀ G', Grow G G' → Q (.tup [.str "told", x]) G') :
    r_law_heard α { nx := fun _ G' => Q .non G', rt := Q } [some α.d, none, none, none] G := by
  unfold r_law_heard
  walk_at "ds"
  refine h _ _ fun G1 g1 => ?_
  walk_at "ds"
  exact hq _ g1
theorem hearL_use {Tb : Addr} {q : Str} {t : XTE} {w : Str} {k : Int} {ρ : DSt} {G : GH} {Q : DK} (hT : G Tb = some (.tab q)) (h : ∀ (E' : DXK) (Q' : DK), (∀ G', Grow G G' → E' (K03.nuA w k) G') → t (fun x _ G2 => E' x G2) ρ G Q') (hq : ∀ G', Grow G G' → Q (.tup [.str "use", .str w, .int k]) G') :
    dHearL Tb q r_law_heard 4 t ρ G Q := ⟨hT, fun φ n1 H1 => heard_use (α := ⟨q, φ, n1, H1, fun E' G' Q' => t (fun x _ G2 => E' x G2) ρ G' Q'⟩) h hq⟩
theorem hearL_told {Tb : Addr} {q : Str} {t : XTE} {x : D} {ρ : DSt} {G : GH} {Q : DK} (hT : G Tb = some (.tab q)) (h : ∀ (E' : DXK) (Q' : DK), (∀ G', Grow G G' → Q' x G') → t (fun x _ G2 => E' x G2) ρ G Q') (hq : ∀ G', Grow G G' → Q (.tup [.str "told", x]) G') :
    dHearL Tb q r_law_heard 4 t ρ G Q := ⟨hT, fun φ n1 H1 => heard_told (α := ⟨q, φ, n1, H1, fun E' G' Q' => t (fun x _ G2 => E' x G2) ρ G' Q'⟩) h hq⟩
def dg (n : Nat) : List Nat := if h : n = 0 then [] else dg (n / 256) ++ [n % 256]
termination_by n
decreasing_by omega
theorem dg0 : dg 0 = [] := by rw [dg]; rfl
theorem dgp {n : Nat} (h : n ≠ 0) : dg n = dg (n / 256) ++ [n % 256] := by rw [dg, dif_neg h]
theorem dg_len : ∀ (k n : Nat), n < 256 ^ k → (dg n).length ≤ k
  | 0, n, h => by
    have : n = 0 := by simpa using h
    subst this; rw [dg0]; simp
  | k + 1, n, h => by
    by_cases e : n = 0
    · subst e; rw [dg0]; simp
    · rw [dgp e, List.length_append, List.length_singleton]
      have := dg_len k (n / 256) (by rw [Nat.pow_succ] at h; omega)
      omega
theorem dg_lt : ∀ (n : Nat), ∀ c ∈ dg n, c < 256 := by
  intro n
  induction n using Nat.strongRecOn with
  | _ n ih =>
    intro c hc
    by_cases e : n = 0
    · subst e; rw [dg0] at hc; cases hc
    · rw [dgp e, List.mem_append, List.mem_singleton] at hc
      rcases hc with hc | rfl
      · exact ih (n / 256) (by omega) c hc
      · omega
def valD (a : Nat) (l : List Nat) : Nat := l.foldl (fun a c => a * 256 + c) a
theorem dg_val (n : Nat) : valD 0 (dg n) = n := by
  induction n using Nat.strongRecOn with
  | _ n ih =>
    by_cases e : n = 0
    · subst e; rw [dg0]; rfl
    · have := ih (n / 256) (by omega)
      rw [dgp e]
      unfold valD at *
      rw [List.foldl_append, this]
      simp only [List.foldl_cons, List.foldl_nil]
      omega
theorem dg_head (n : Nat) : ∀ c l, dg n = c :: l → c ≠ 0 := by
  induction n using Nat.strongRecOn with
  | _ n ih =>
    intro c l h
    by_cases e : n = 0
    · subst e; rw [dg0] at h; cases h
    · rw [dgp e] at h
      cases hd : dg (n / 256) with
      | nil =>
        rw [hd] at h
        have : n / 256 = 0 := by
          by_cases e2 : n / 256 = 0
          · exact e2
          · rw [dgp e2] at hd; simp at hd
        injection h with h1 h2
        omega
      | cons a t =>
        rw [hd] at h
        injection h with h1 h2
        subst h1
        exact ih (n / 256) (by omega) a t hd
def nsD (l : List Nat) : List D := l.map fun n => .int (n : Nat)
theorem nsD_app (a b : List Nat) : nsD (a ++ b) = nsD a ++ nsD b := by simp [nsD]
theorem nsD_len (a : List Nat) : (nsD a).length = a.length := by simp [nsD]
theorem nsD_rev (a : List Nat) : (nsD a).reverse = nsD a.reverse := by simp [nsD]
def nc (n : Nat) : List Nat := (dg n).length :: dg n
def RNc : List D → D → Prop := fun ds d => ∃ n : Nat, ds = [.int (n : Nat)] ∧ n < 256 ^ 200 ∧ d = .lst (nsD (nc n))
theorem revRf {p : Addr} {l : List D} {G : GH} {Q : DK} (e : G p = some (.lst l)) (h : Q (.lst l.reverse) G) : rRev (.ref p) G (frzK Q) := by
  unfold rRev
  dsimp only
  rw [e]
  exact frzEnd h
theorem sqR {p : Addr} {l : List D} {G : GH} (e : G p = some (.lst l)) : sqOf G (.ref p) = some l := by
  unfold sqOf
  dsimp only
  rw [e]
theorem number_codes_rd : ∀ ds G Q E, pSp RNc ds G Q E → r_number_codes { nx := fun _ G' => Q .non G', rt := Q } (startD 3 ds) G := by
  rintro ds G Q E ⟨_, ⟨n, rfl, hn, rfl⟩, hq⟩
  unfold r_number_codes
  have hl := dg_len 200 n hn
  have hz : (3000 : Nat) ≤ sizeLine := by decide
  walk_at "ds"
  intro p hp
  walk_at "ds"
  refine dWhile_of (I := fun k ρ G1 => ∃ (m : Nat) (l : List Nat), ρ = [some (.int (n : Nat)), some (.ref p), some (.int (m : Nat))] ∧ G1 p = some (.lst (nsD l)) ∧ dg n = dg m ++ l.reverse ∧ m ≤ k ∧ Grow G G1) ?_ n _ _ ⟨n, [], rfl, by rw [updG_same]; rfl, by simp, Nat.le_refl _, Grow.upd hp⟩
  rintro k ρ G1 ⟨m, l, rfl, e1, e2, hk, g1⟩ K hK
  have hlen : l.length ≤ 200 := by have := congrArg List.length e2; rw [List.length_append, List.length_reverse] at this; omega
  walk_at "ds"
  by_cases h0 : m = 0
  · subst h0
    refine ifDF (by omega) ?_
    rw [dg0, List.nil_append] at e2
    walk_at "ds"
    refine len_r e1 ?_
    walk_at "ds"
    refine revRf e1 ?_
    dsimp only [sqOf]
    walk_at "ds"
    refine ⟨by simp [nsD]; omega, ?_⟩
    refine frzEnd ?_
    have := hq _ g1
    rw [show D.int ((nsD l).length : Nat) :: ((nsD l).reverse ++ []) = nsD (nc n) from by rw [nc, e2, List.append_nil, nsD_rev, nsD_len]; simp [nsD]]
    exact this
  · refine ifDT (by omega) ?_
    walk_at "ds"
    refine int2 (by decide) ?_
    walk_at "ds"
    refine app_i e1 (by rw [nsD_len]; omega) ?_
    walk_at "ds"
    refine int2 ⟨by decide, by decide⟩ ?_
    walk_at "ds"
    refine hK (k - 1) (by omega) _ _ ⟨m / 256, l ++ [m % 256], rfl, ?_, ?_, by omega, Grow.upd2 hp g1⟩
    · rw [updG_same, nsD_app]; simp [nsD]
    · rw [e2, dgp h0]; simp
end K06

namespace K06
open PySem L2 Dl 
local macro_rules | `(tactic| walk_at "ds") => `(tactic| repeat' with_reducible first
  | refine iVar (by with_unfolding_all rfl) ?_
  | refine iCons ?_
  | refine iNil ?_
  | refine iC ?_
  | refine iOp ?_
  | refine iSeq ?_
  | refine iAsg ?_
  | refine iGNm ?_
  | refine iFrz ?_
  | refine iTst ?_
  | refine iIfS ?_
  | refine iRet ?_
  | refine iCall ?_
  | refine iLst ?_
  | refine iNext ?_
  | refine lstP_i (by assumption) ?_
  | refine lstP_i updG_same ?_
  | refine iDrop ?_
  | refine lenOk (by with_unfolding_all rfl) ?_
  | refine frzEnd ?_
  | refine iTru ?_
  | refine truB ?_
  | refine ifDT (by decide) ?_
  | refine ifDF (by decide) ?_
  | refine iIf ?_
  | refine ifT ?_
  | refine ifF ?_
  | refine iMt ?_
  | refine iStar ?_
  | refine iIsi ?_
  | refine iFor ?_
  | refine iISq ?_
  | refine rIx_i (by with_unfolding_all rfl) (by with_unfolding_all rfl) ?_
  | refine rIx_i (by with_unfolding_all rfl) atI_0 ?_
  | refine add_ii ?_
  | refine int0 ?_
  | refine isi_T (by with_unfolding_all rfl) (by decide +kernel) ?_
  | refine isi_F (by with_unfolding_all rfl) (by decide +kernel) ?_
  | refine ifDT (by with_reducible_and_instances first | omega | (simp only [List.length_cons, List.length_nil]; omega)) ?_
  | refine ifDF (by with_reducible_and_instances first | omega | (simp only [List.length_cons, List.length_nil]; omega)) ?_
  | fail "stuck")
inductive Sn where
  | tick
  | more
  | fin
  | num (w : Bool) (n : Nat)
  | side (r : Bool) (s : Sn)
def numS (w : Bool) : Str := if w = true then "way" else "many"
def sidS (r : Bool) : Str := if r = true then "right" else "left"
def snD : Sn → D
  | .tick => .str "tick"
  | .more => .str "more"
  | .fin => .str "end"
  | .num w n => .tup [.str (numS w), .int (n : Nat)]
  | .side r s => .tup [.str (sidS r), snD s]
def cod : Sn → List Nat
  | .tick => [0]
  | .more => [1]
  | .fin => [2]
  | .num w n => (3 + w.toNat) :: nc n
  | .side r s => (5 + r.toNat) :: cod s
def sds : Sn → Nat
  | .side _ s => sds s + 1
  | _ => 0
def okN : Sn → Prop
  | .num _ n => n < 256 ^ 200
  | .side _ s => okN s
  | _ => True
theorem clean_sn : ∀ s : Sn, cleanD (snD s) = true
  | .tick => by decide +kernel
  | .more => by decide +kernel
  | .fin => by decide +kernel
  | .num w n => by have : cleanS (numS w) = true := by cases w <;> decide +kernel
                   simp [snD, cleanD, cleanDs, this]
  | .side r s => by have : cleanS (sidS r) = true := by cases r <;> decide +kernel
                    simp [snD, cleanD, cleanDs, clean_sn s, this]
theorem sided_sn : ∀ s : Sn, K18.sidedB (snD s) = (match s with | .side _ _ => true | _ => false)
  | .tick => rfl
  | .more => rfl
  | .fin => rfl
  | .num true n => by simp only [snD, numS, K18.sidedB]; decide +kernel
  | .num false n => by simp only [snD, numS, K18.sidedB]; decide +kernel
  | .side true s => by simp only [snD, sidS, K18.sidedB]; decide +kernel
  | .side false s => by simp only [snD, sidS, K18.sidedB]; decide +kernel
theorem isSg_sn : ∀ s : Sn, K18.isSgB (snD s) = true
  | .tick => by decide +kernel
  | .more => by decide +kernel
  | .fin => by decide +kernel
  | .num true n => by
    simp only [snD, numS, K18.isSgB, K18.isNumB]
    rw [if_neg (by decide +kernel), Bool.and_eq_true]
    exact ⟨by decide +kernel, decide_eq_true (by omega)⟩
  | .num false n => by
    simp only [snD, numS, K18.isSgB, K18.isNumB]
    rw [if_neg (by decide +kernel), Bool.and_eq_true]
    exact ⟨by decide +kernel, decide_eq_true (by omega)⟩
  | .side true s => by
    simp only [snD, sidS, K18.isSgB]
    rw [if_pos (by decide +kernel)]
    exact isSg_sn s
  | .side false s => by
    simp only [snD, sidS, K18.isSgB]
    rw [if_pos (by decide +kernel)]
    exact isSg_sn s
theorem nc_len {n : Nat} (h : n < 256 ^ 200) : (nc n).length ≤ 201 := by have := dg_len 200 n h; rw [nc, List.length_cons]; omega
theorem cod_len : ∀ s : Sn, okN s → (cod s).length ≤ 202 + sds s
  | .tick, _ => by simp only [cod, List.length_cons, List.length_nil]; omega
  | .more, _ => by simp only [cod, List.length_cons, List.length_nil]; omega
  | .fin, _ => by simp only [cod, List.length_cons, List.length_nil]; omega
  | .num w n, h => by have := nc_len h; simp only [cod, List.length_cons, sds]; omega
  | .side r s, h => by have := cod_len s h; simp only [cod, List.length_cons, sds]; omega
def RSc : List D → D → Prop := fun ds d => ∃ s : Sn, ds = [snD s] ∧ okN s ∧ sds s ≤ 200 ∧ d = .lst (nsD (cod s))
theorem idx2 {a b z : Str} {j : Nat} (h : [a, b][j]? = some z) (hn : a ≠ b) : ∀ m, m < j → [a, b][m]? ≠ some z := by
  intro m hm e
  match j, m with
  | 0, _ => omega
  | 1, 0 => simp at h e; exact hn (e.trans h.symm)
  | n + 2, _ => simp at h
theorem sid_ne : ("left" : Str) ≠ "right" := by decide +kernel
theorem num_ne : ("many" : Str) ≠ "way" := by decide +kernel
theorem sid_at (r : Bool) : ([("left" : Str), "right"])[r.toNat]? = some (sidS r) := by cases r <;> rfl
theorem num_at (r : Bool) : ([("many" : Str), "way"])[r.toNat]? = some (numS r) := by cases r <;> rfl
theorem nsD1 (a : Nat) : nsD [a] = [.int (a : Nat)] := rfl
theorem sign_codes_rd : ∀ ds G Q E, pSp RSc ds G Q E → r_sign_codes (pSp RNc) (pSp (K18.R1 K18.sidedB)) { nx := fun _ G' => Q .non G', rt := Q } (startD 3 ds) G := by
  rintro ds G Q E ⟨_, ⟨s, rfl, hs, hd, rfl⟩, hq⟩
  unfold r_sign_codes
  have hl := cod_len s hs
  have hz : (3000 : Nat) ≤ sizeLine := by decide
  walk_at "ds"
  intro p hp
  walk_at "ds"
  refine dWhile_of (I := fun k ρ G1 => ∃ (u : Sn) (l : List Nat), ρ = [some (snD s), some (.ref p), some (snD u)] ∧ G1 p = some (.lst (nsD l)) ∧ cod s = l ++ cod u ∧ okN u ∧ sds u ≤ k ∧ Grow G G1) ?_ (sds s) _ _ ⟨s, [], rfl, by rw [updG_same]; rfl, by simp, hs, Nat.le_refl _, Grow.upd hp⟩
  rintro k ρ G1 ⟨u, l, rfl, e1, e2, hu, hk, g1⟩ K hK
  have hlen : l.length ≤ 402 := by have := congrArg List.length e2; rw [List.length_append] at this; omega
  walk_at "ds"
  refine ⟨_, ⟨snD u, rfl, clean_sn u, rfl⟩, fun G2 g2 => ?_⟩
  have e3 := g2 _ _ e1
  have g3 := g1.trans g2
  rw [sided_sn]
  cases u with
  | side r u =>
    refine truB ?_
    rw [if_pos rfl]
    simp only [snD]
    walk_at "ds"
    refine idxT_i ?_
    walk_at "ds"
    refine ⟨_, r.toNat, rfl, sid_at r, idx2 (sid_at r) sid_ne, ?_⟩
    walk_at "ds"
    refine app_i e3 (by rw [nsD_len]; omega) ?_
    walk_at "ds"
    rw [sds] at hk
    refine hK (k - 1) (by omega) _ _ ⟨u, l ++ [5 + r.toNat], rfl, ?_, ?_, hu, by omega, Grow.upd2 hp g3⟩
    · rw [updG_same, nsD_app, nsD1]; congr 4
    · rw [e2, cod]; simp
  | num w n =>
    refine truB ?_
    rw [if_neg (by exact Bool.false_ne_true)]
    simp only [snD]
    walk_at "ds"
    rw [sqR e3]
    dsimp only
    walk_at "ds"
    refine idxT_i ?_
    walk_at "ds"
    refine ⟨_, w.toNat, rfl, num_at w, idx2 (num_at w) num_ne, ?_⟩
    walk_at "ds"
    refine ⟨_, ⟨n, rfl, hu, rfl⟩, fun G4 g4 => ?_⟩
    dsimp only [sqOf]
    walk_at "ds"
    have hn := nc_len hu
    refine ⟨by simp [nsD]; omega, ?_⟩
    refine frzEnd ?_
    have := hq _ (g3.trans g4)
    rw [e2, cod] at this
    rw [show nsD l ++ D.int (3 + (w.toNat : Nat)) :: (nsD (nc n) ++ []) = nsD (l ++ (3 + w.toNat) :: nc n) from by simp [nsD]]
    exact this
  | _ =>
    refine truB ?_
    rw [if_neg (by exact Bool.false_ne_true)]
    simp only [snD]
    walk_at "ds"
    rw [sqR e3]
    dsimp only
    walk_at "ds"
    refine idxT_i ?_
    walk_at "ds"
    first
      | refine ⟨_, 0, rfl, rfl, fun m hm => absurd hm (by omega), ?_⟩
      | refine ⟨_, 1, rfl, rfl, fun m hm => by match m, hm with | 0, _ => decide +kernel, ?_⟩
      | refine ⟨_, 2, rfl, rfl, fun m hm => by match m, hm with | 0, _ => decide +kernel | 1, _ => decide +kernel, ?_⟩
    walk_at "ds"
    refine ⟨by simp [nsD]; omega, ?_⟩
    refine frzEnd ?_
    have := hq _ g3
    rw [e2, cod] at this
    rw [nsD_app] at this
    exact this
def cods (l : List Sn) : List Nat := l.flatMap cod
theorem cods_cons (s : Sn) (l : List Sn) : cods (s :: l) = cod s ++ cods l := by simp [cods]
end K06

namespace K06
open PySem L2 Dl 
local macro_rules | `(tactic| walk_at "ds") => `(tactic| repeat' with_reducible first
  | refine iVar (by with_unfolding_all rfl) ?_
  | refine iCons ?_
  | refine iNil ?_
  | refine iC ?_
  | refine iAsg ?_
  | refine iGNm ?_
  | refine iRet ?_
  | refine iCall ?_
  | refine iLst ?_
  | refine iXPa ?_
  | refine iXPs ?_
  | refine iXSeq ?_
  | refine iXDrop ?_
  | refine iXCall ?_
  | refine iNeg ?_
  | refine lstP_i (by assumption) ?_
  | refine lstP_i updG_same ?_
  | refine iDrop ?_
  | refine lenOk (by with_unfolding_all rfl) ?_
  | refine iCB ?_
  | refine iMt ?_
  | refine iISq ?_
  | fail "stuck")
def byN (b : Array UInt8) : List Nat := b.toList.map UInt8.toNat
def byL (l : List Nat) : Array UInt8 := (l.map Nat.toUInt8).toArray
theorem byN_len (b : Array UInt8) : (byN b).length = b.size := by simp [byN]
theorem byL_len (l : List Nat) : (byL l).size = l.length := by simp [byL]
theorem byN_byL : ∀ {l : List Nat}, (∀ c ∈ l, c < 256) → byN (byL l) = l := by
  intro l h
  unfold byN byL
  rw [List.map_map]
  have : ∀ c ∈ l, (UInt8.toNat ∘ Nat.toUInt8) c = c := by
    intro c hc
    have := h c hc
    simp [Nat.toUInt8, UInt8.toNat, UInt8.ofNat]
    omega
  rw [List.map_congr_left this]; simp
theorem byL_app (a b : List Nat) : byL a ++ byL b = byL (a ++ b) := by simp [byL]
theorem bD_nat (l : List Nat) : bD (l.map fun n : Nat => (n : Int)) = .byt (byL l) := by
  unfold bD byL byteArr
  rw [List.map_map]; rfl
theorem byN_lt (b : Array UInt8) : ∀ c ∈ byN b, c < 256 := by
  intro c hc
  obtain ⟨x, -, rfl⟩ := List.mem_map.mp hc
  exact x.toNat_lt
theorem nc_lt {n : Nat} (h : n < 256 ^ 200) : ∀ c ∈ nc n, c < 256 := by
  intro c hc
  rw [nc, List.mem_cons] at hc
  rcases hc with rfl | hc
  · have := dg_len 200 n h; omega
  · exact dg_lt n c hc
theorem cod_lt : ∀ s : Sn, okN s → ∀ c ∈ cod s, c < 256
  | .tick, _, c, hc => by simp [cod] at hc; omega
  | .more, _, c, hc => by simp [cod] at hc; omega
  | .fin, _, c, hc => by simp [cod] at hc; omega
  | .num w n, h, c, hc => by
    rw [cod, List.mem_cons] at hc
    rcases hc with rfl | hc
    · cases w <;> decide
    · exact nc_lt h c hc
  | .side r s, h, c, hc => by
    rw [cod, List.mem_cons] at hc
    rcases hc with rfl | hc
    · cases r <;> decide
    · exact cod_lt s h c hc
def GoodRow (l : List Sn) : Prop := (∀ s ∈ l, okN s ∧ sds s ≤ 29) ∧ (cods l).length ≤ 230
theorem cods_lt {l : List Sn} (h : GoodRow l) : ∀ c ∈ cods l, c < 256 := by
  intro c hc
  obtain ⟨s, hs, hc⟩ := List.mem_flatMap.mp hc
  exact cod_lt s (h.1 s hs).1 c hc
theorem isSgs_sn (l : List Sn) : K18.isSgsB (.tup (l.map snD)) = true := by
  rw [K18.isSgsB, List.all_eq_true]
  intro d hd
  obtain ⟨s, -, rfl⟩ := List.mem_map.mp hd
  exact isSg_sn s
theorem cods_len (l : List Sn) : l.length ≤ (cods l).length := by
  induction l with
  | nil => simp
  | cons s l ih =>
    rw [cods_cons, List.length_append, List.length_cons]
    have : 0 < (cod s).length := by cases s <;> simp [cod]
    omega
def RPk : List D → Except DX D → Prop := fun ds o => (∃ l : List Sn, ds = [.tup (l.map snD)] ∧ GoodRow l ∧ o = .ok (.byt (byL (cods l)))) ∨
  (∃ x, ds = [x] ∧ cleanD x = true ∧ (∀ l, x = .tup l → l.length ≤ sizeLine) ∧ K18.isSgsB x = false ∧ o = .error (K03.nuA "signs" (-1)))
theorem bytC_r {p : Addr} {l : List Nat} {G : GH} {Q : DK} (e : G p = some (.lst (nsD l))) (h8 : ∀ c ∈ l, c < 256) (h : Q (.byt (byL l)) G) : rBytC [.ref p] G Q := by
  show intsP G (.ref p) _
  unfold intsP lsOf
  dsimp only
  rw [e]
  dsimp only
  rw [show nsD l = (l.map fun n : Nat => (n : Int)).map D.int from by unfold nsD; rw [List.map_map]; rfl, intsD_map]
  dsimp only
  refine ⟨?_, ?_⟩
  · intro n hn
    obtain ⟨c, hc, rfl⟩ := List.mem_map.mp hn
    have := h8 c hc
    omega
  · rw [bD_nat]; exact h
theorem packed_rd : ∀ ds G Q E, pSpX RPk ds G Q E → r_packed (pSp RSc) (pSp K18.RSs) (pSpX K03.RUx) (fun x _ G' => E x G') { nx := fun _ G' => Q .non G', rt := Q } (startD 3 ds) G := by
  rintro ds G Q E ⟨o, hr, hq⟩
  unfold r_packed
  have hz : (3000 : Nat) ≤ sizeLine := by decide
  rcases hr with ⟨l, rfl, hl, rfl⟩ | ⟨x, rfl, hc, hx, hb, rfl⟩
  · have hl2 := hl.2
    have hl3 := cods_len l
    walk_at "ds"
    refine ⟨_, ⟨_, rfl, by simp only [cleanD, K18.cleanDs_iff]; intro d hd; obtain ⟨s, -, rfl⟩ := List.mem_map.mp hd; exact clean_sn s, fun m e => by injection e with e; subst e; simp; omega, rfl⟩, fun G1 g1 => ?_⟩
    rw [isSgs_sn]
    walk_at "ds"
    refine ⟨_, ⟨true, "signs", -1, rfl, rfl⟩, fun G2 g2 => ?_⟩
    dsimp only [K03.ruO]
    walk_at "ds"
    intro p hp0
    have hp : G p = none := by
      cases e : G p with
      | none => rfl
      | some o => rw [(g1.trans g2) p o e] at hp0; cases hp0
    walk_at "ds"
    refine K03.iXFor ?_
    walk_at "ds"
    refine dForGo_of (I := fun rest ρ G' => ∃ (L M : List Sn) (x2 : Option D), rest = M.map snD ∧ (∀ s ∈ M, okN s ∧ sds s ≤ 29) ∧ L ++ M = l ∧ ρ = [some (.tup (l.map snD)), some (.ref p), x2] ∧ G' p = some (.lst (nsD (cods L))) ∧ Grow G G') ?_ ?_ _ _ _
      ⟨[], l, _, rfl, hl.1, rfl, rfl, by rw [updG_same]; rfl, Grow.upd2 hp (g1.trans g2)⟩
    · rintro ρ G2 ⟨L, M, x2, hM, -, rfl, rfl, e2, g2⟩
      refine ⟨trivial, ?_⟩
      obtain rfl : M = [] := by cases M with | nil => rfl | cons => simp at hM
      rw [List.append_nil] at *
      walk_at "ds"
      refine bytC_r e2 (cods_lt hl) ?_
      exact hq _ g2
    · rintro y rest ρ G2 ⟨L, M, x2, hM, hs2, rfl, rfl, e2, g2⟩ K hK
      refine ⟨trivial, ?_⟩
      cases M with
      | nil => simp at hM
      | cons s M =>
        injection hM with h1 h2
        subst h1; subst h2
        have ha := hs2 s (List.mem_cons_self ..)
        walk_at "ds"
        refine ⟨_, ⟨s, rfl, ha.1, by omega, rfl⟩, fun G3 g3 => ?_⟩
        have hlen : (cods L).length + (cod s).length ≤ 2000 := by
          have : (cods (L ++ s :: M)).length = (cods L).length + ((cod s).length + (cods M).length) := by simp [cods]
          omega
        walk_at "ds"
        refine ext_i (d := .lst (nsD (cod s))) (m := nsD (cod s)) (g3 _ _ e2) rfl (by rw [nsD_len, nsD_len]; omega) ?_
        walk_at "ds"
        refine hK _ _ ⟨L ++ [s], M, _, rfl, fun t ht => hs2 t (List.mem_cons_of_mem _ ht), by simp, rfl, ?_, Grow.upd2 hp (g2.trans g3)⟩
        rw [updG_same, ← nsD_app]; simp [cods]
  · walk_at "ds"
    refine ⟨_, ⟨_, rfl, hc, hx, rfl⟩, fun G1 g1 => ?_⟩
    rw [hb]
    walk_at "ds"
    refine ⟨_, ⟨false, "signs", -1, rfl, rfl⟩, fun G2 g2 => ?_⟩
    exact hq _ (g1.trans g2)
def dgP : Nat → Bool → Nat → List Nat → Except Nat (Nat × List Nat)
  | 0, _, n, l => .ok (n, l)
  | _ + 1, _, _, [] => .error 0
  | m + 1, f, n, c :: l => if f = true ∧ c = 0 then .error (l.length + 1) else dgP m false (n * 256 + c) l
def tdP : List Nat → Except Nat (Nat × List Nat)
  | [] => .error 0
  | m :: l => dgP m true 0 l
def sgP : Nat → List Nat → Except Nat (Sn × List Nat)
  | _, [] => .error 0
  | a, c :: l =>
    if 6 < c ∨ (4 < c ∧ 28 < a) then .error (l.length + 1)
    else if 4 < c then (match sgP (a + 1) l with
      | .ok q => .ok (.side (c == 6) q.1, q.2)
      | .error r => .error r)
    else if c = 0 then .ok (.tick, l) else if c = 1 then .ok (.more, l) else if c = 2 then .ok (.fin, l)
    else (match tdP l with
      | .ok q => .ok (.num (c == 4) q.1, q.2)
      | .error r => .error r)
def allP : Nat → List Nat → Except Nat (List Sn)
  | _, [] => .ok []
  | 0, _ :: _ => .error 0
  | k + 1, c :: l => match sgP 0 (c :: l) with
    | .error r => .error r
    | .ok q => (match allP k q.2 with
      | .ok t => .ok (q.1 :: t)
      | .error r => .error r)
theorem dgP_app : ∀ (ds : List Nat) (f : Bool) (n : Nat) (l : List Nat), (f = true → ∀ c t, ds = c :: t → c ≠ 0) → dgP ds.length f n (ds ++ l) = .ok (valD n ds, l)
  | [], f, n, l, _ => rfl
  | c :: ds, f, n, l, h => by
    rw [List.length_cons, List.cons_append, dgP, if_neg (fun e => h e.1 c ds rfl e.2), dgP_app ds false _ l (fun e => by cases e)]
    rfl
theorem tdP_nc (n : Nat) (l : List Nat) : tdP (nc n ++ l) = .ok (n, l) := by
  rw [nc, List.cons_append, tdP, dgP_app _ _ _ _ (fun _ => dg_head n), dg_val]
theorem sgP_cod : ∀ (s : Sn) (a : Nat) (l : List Nat), a + sds s ≤ 29 → sgP a (cod s ++ l) = .ok (s, l)
  | .tick, a, l, _ => by rw [cod, List.singleton_append, sgP]; simp
  | .more, a, l, _ => by rw [cod, List.singleton_append, sgP]; simp
  | .fin, a, l, _ => by rw [cod, List.singleton_append, sgP]; simp
  | .num w n, a, l, _ => by
    rw [cod, List.cons_append, sgP, tdP_nc]
    cases w <;> simp
  | .side r s, a, l, h => by
    rw [sds] at h
    rw [cod, List.cons_append, sgP, sgP_cod s (a + 1) l (by omega)]
    cases r <;> simp <;> omega
theorem allP_cods : ∀ (l : List Sn) (k : Nat), (∀ s ∈ l, sds s ≤ 29) → l.length ≤ k → allP k (cods l) = .ok l
  | [], k, _, _ => by cases k <;> rfl
  | s :: l, 0, _, h => by simp at h
  | s :: l, k + 1, hs, h => by
    have e := sgP_cod s 0 (cods l) (by have := hs s (List.mem_cons_self ..); omega)
    rw [cods_cons]
    cases hc : cod s ++ cods l with
    | nil => have := cods_cons s l; have h2 : 0 < (cod s).length := by cases s <;> simp [cod]
             have h3 : (cod s ++ cods l).length = 0 := by rw [hc]; rfl
             rw [List.length_append] at h3; omega
    | cons c t =>
      rw [allP, ← hc, e]
      dsimp only
      rw [allP_cods l k (fun t ht => hs t (List.mem_cons_of_mem _ ht)) (by simp at h; omega)]
theorem dgP_ok : ∀ (m : Nat) (f : Bool) (n : Nat) (l : List Nat) (q : Nat × List Nat), (∀ c ∈ l, c < 256) → dgP m f n l = .ok q → ∃ d, l = d ++ q.2 ∧ ∀ k, n < 256 ^ k → q.1 < 256 ^ (k + d.length)
  | 0, f, n, l, q, _, h => by
    rw [dgP] at h; injection h with h; subst h
    exact ⟨[], rfl, fun k hk => by simpa using hk⟩
  | m + 1, f, n, [], q, _, h => by rw [dgP] at h; cases h
  | m + 1, f, n, c :: l, q, hc, h => by
    rw [dgP] at h
    split at h
    · cases h
    · obtain ⟨d, e, hd⟩ := dgP_ok m false _ l q (fun x hx => hc x (List.mem_cons_of_mem _ hx)) h
      refine ⟨c :: d, by rw [e]; rfl, fun k hk => ?_⟩
      have h1 := hd (k + 1) (by have := hc c (List.mem_cons_self ..); rw [Nat.pow_succ]; omega)
      rw [List.length_cons, show k + (d.length + 1) = k + 1 + d.length by omega]
      exact h1
theorem tdP_ok {l : List Nat} {q : Nat × List Nat} (hc : ∀ c ∈ l, c < 256) (h : tdP l = .ok q) : ∃ d, l = d ++ q.2 ∧ 1 ≤ d.length ∧ q.1 < 256 ^ (d.length - 1) := by
  cases l with
  | nil => rw [tdP] at h; cases h
  | cons m l =>
    rw [tdP] at h
    obtain ⟨d, e, hd⟩ := dgP_ok m true 0 l q (fun x hx => hc x (List.mem_cons_of_mem _ hx)) h
    refine ⟨m :: d, by rw [e]; rfl, by simp, ?_⟩
    have := hd 0 (by decide)
    simpa using this
structure SgOk (s : Sn) (a used : Nat) : Prop where
  mg : mgD (snD s) = true
  dp : depD (snD s) + a ≤ 30
  wt : wgD (snD s) + 1 ≤ 16 * used
theorem p256 (m : Nat) : (256 : Nat) ^ m = 2 ^ (8 * m) := by rw [Nat.pow_mul]
theorem log_le {n m : Nat} (h : n < 256 ^ m) : n.log2 ≤ 8 * m := by
  by_cases e : n = 0
  · subst e; simp [Nat.log2_zero]
  · have := (Nat.log2_lt e).mpr (by rw [p256] at h; exact h)
    omega
theorem big_le {n m : Nat} (h : n < 256 ^ m) (hm : m ≤ 230) : n < 10 ^ 575 :=
  Nat.lt_of_lt_of_le h (Nat.le_trans (Nat.pow_le_pow_right (by decide) hm) (by decide +kernel))
theorem len_num (w : Bool) : (numS w).length ≤ 4 ∧ PyData.strOk (numS w) = true := by cases w <;> decide +kernel
theorem len_sid (w : Bool) : (sidS w).length ≤ 5 ∧ PyData.strOk (sidS w) = true := by cases w <;> decide +kernel
theorem ok_tick {a : Nat} (h : a ≤ 29) : SgOk .tick a 1 := ⟨by decide +kernel, by simp only [snD, depD]; omega, by decide +kernel⟩
theorem ok_more {a : Nat} (h : a ≤ 29) : SgOk .more a 1 := ⟨by decide +kernel, by simp only [snD, depD]; omega, by decide +kernel⟩
theorem ok_fin {a : Nat} (h : a ≤ 29) : SgOk .fin a 1 := ⟨by decide +kernel, by simp only [snD, depD]; omega, by decide +kernel⟩
theorem sgP_ok : ∀ (l : List Nat) (a : Nat) (q : Sn × List Nat), l.length ≤ 230 → a ≤ 29 → (∀ c ∈ l, c < 256) → sgP a l = .ok q → ∃ d, l = d ++ q.2 ∧ 1 ≤ d.length ∧ SgOk q.1 a d.length
  | [], a, q, _, _, _, h => by rw [sgP] at h; cases h
  | c :: l, a, q, hl, ha, hc, h => by
    rw [sgP] at h
    have hc2 : ∀ x ∈ l, x < 256 := fun x hx => hc x (List.mem_cons_of_mem _ hx)
    rw [List.length_cons] at hl
    split at h
    · cases h
    rename_i h1
    split at h
    · rename_i h2
      split at h
      · rename_i q2 e
        injection h with h; subst h
        obtain ⟨d, e2, hd, o⟩ := sgP_ok l (a + 1) q2 (by omega) (by omega) hc2 e
        refine ⟨c :: d, by rw [e2]; rfl, by simp, ?_, ?_, ?_⟩
        · simp [snD, mgD, mgDs, (len_sid (c == 6)).2, o.mg]
        · have := o.dp
          simp only [snD, depD, depDs]
          omega
        · have := o.wt
          have := (len_sid (c == 6)).1
          simp only [snD, wgD, wgDs, List.length_cons]
          omega
      · cases h
    · split at h
      · injection h with h; subst h
        exact ⟨[c], rfl, by simp, ok_tick ha⟩
      split at h
      · injection h with h; subst h
        exact ⟨[c], rfl, by simp, ok_more ha⟩
      split at h
      · injection h with h; subst h
        exact ⟨[c], rfl, by simp, ok_fin ha⟩
      split at h
      · rename_i q2 e
        injection h with h; subst h
        obtain ⟨d, e2, hd, hn⟩ := tdP_ok hc2 e
        have hlen : d.length ≤ 229 := by have := congrArg List.length e2; rw [List.length_append] at this; omega
        have h4 := big_le hn (by omega)
        have h5 := log_le hn
        refine ⟨c :: d, by rw [e2]; rfl, by simp, ?_, ?_, ?_⟩
        · simp only [snD, mgD, mgDs, (len_num (c == 4)).2, Bool.true_and, Bool.and_true, decide_eq_true_eq, Int.natAbs_natCast]
          exact h4
        · simp only [snD, depD, depDs]; omega
        · have := (len_num (c == 4)).1
          simp only [snD, wgD, wgDs, List.length_cons, Int.natAbs_natCast]
          omega
      · cases h
structure RowOk (t : List Sn) (used : Nat) : Prop where
  mg : mgDs (t.map snD) = true
  dp : depDs (t.map snD) ≤ 30
  wt : wgDs (t.map snD) ≤ 16 * used
theorem allP_ok : ∀ (k : Nat) (l : List Nat) (t : List Sn), l.length ≤ 230 → (∀ c ∈ l, c < 256) → allP k l = .ok t → RowOk t l.length
  | _, [], t, _, _, h => by
    have : t = [] := by cases ‹Nat› <;> (rw [allP] at h; injection h with h; exact h.symm)
    subst this
    exact ⟨rfl, by simp [depDs], by simp [wgDs]⟩
  | 0, c :: l, t, _, _, h => by rw [allP] at h; cases h
  | k + 1, c :: l, t, hl, hc, h => by
    rw [allP] at h
    split at h
    · cases h
    rename_i q e
    obtain ⟨d, e2, hd, o⟩ := sgP_ok (c :: l) 0 q hl (by omega) hc e
    have hlen : (c :: l).length = d.length + q.2.length := by rw [e2, List.length_append]
    split at h
    · rename_i t2 e3
      injection h with h; subst h
      have i := allP_ok k q.2 t2 (by omega) (fun x hx => hc x (by rw [e2]; exact List.mem_append_right _ hx)) e3
      have := o.wt
      have := i.wt
      have := o.dp
      have := i.dp
      refine ⟨by simp [mgDs, o.mg, i.mg], by simp only [List.map_cons, depDs]; omega, by simp only [List.map_cons, wgDs]; omega⟩
    · cases h
end K06

namespace K06
open PySem L2 Dl 
local macro_rules | `(tactic| walk_at "ds") => `(tactic| repeat' with_reducible first
  | refine iVar (by with_unfolding_all rfl) ?_
  | refine iCons ?_
  | refine iNil ?_
  | refine iC ?_
  | refine iOp ?_
  | refine iSeq ?_
  | refine iAsg ?_
  | refine iGNm ?_
  | refine iTst ?_
  | refine iRet ?_
  | refine iXPe ?_
  | refine iXPa ?_
  | refine iXPs ?_
  | refine iXSeq ?_
  | refine iXDrop ?_
  | refine iXAsg ?_
  | refine iXOp ?_
  | refine iXCall ?_
  | refine iAndVK ?_
  | refine andVDT (by decide) ?_
  | refine andVDF (by decide) ?_
  | refine ifDT (by decide) ?_
  | refine ifDF (by decide) ?_
  | refine iIf ?_
  | refine iCB ?_
  | refine eq_ii ?_
  | refine add_ii ?_
  | refine int0 ?_
  | refine iIRg1 ?_
  | refine andVDT (by with_reducible_and_instances first | omega | (simp only [List.length_cons, List.length_nil]; omega)) ?_
  | refine andVDF (by with_reducible_and_instances first | omega | (simp only [List.length_cons, List.length_nil]; omega)) ?_
  | refine ifDT (by with_reducible_and_instances first | omega | (simp only [List.length_cons, List.length_nil]; omega)) ?_
  | refine ifDF (by with_reducible_and_instances first | omega | (simp only [List.length_cons, List.length_nil]; omega)) ?_
  | refine iFld ?_
  | refine fld_i (by assumption) (by with_unfolding_all rfl) ?_
  | refine fld_i updG_same (by with_unfolding_all rfl) ?_
  | refine iGFld ?_
  | refine gfld_i (by assumption) (by decide) ?_
  | refine gfld_i updG_same (by decide) ?_
  | refine iMeth ?_
  | refine pmeth_i (by assumption) (by with_unfolding_all rfl) ?_
  | refine pmeth_i updG_same (by with_unfolding_all rfl) ?_
  | fail "stuck")
theorem xWhile_of {Z : DZ} {c : XTT} {tb : XTS} {E : DEnds} {I : Nat → DSt → GH → Prop}
    (h : ∀ n ρ G, I n ρ G → ∀ K : DSt → GH → Prop, (∀ m, m + 1 = n → ∀ ρ' G', I m ρ' G' → K ρ' G') → c Z ρ G fun b G1 => if b = true then tb Z { E with nx := K, ct := K, bk := E.nx } ρ G1 else E.nx ρ G1) :
    ∀ n ρ G, I n ρ G → xWhile c tb Z E ρ G := by
  have key : ∀ n ρ G, I n ρ G → xWhileGo Z c tb (n + 1) E ρ G := by
    intro n
    induction n with
    | zero => intro ρ G i; unfold xWhileGo; exact h 0 ρ G i _ (fun m e => by omega)
    | succ n ih =>
      intro ρ G i
      unfold xWhileGo
      refine h _ ρ G i _ ?_
      intro m e ρ' G' j
      have e2 : m = n := by omega
      subst e2
      exact ih ρ' G' j
  exact fun n ρ G i => ⟨n + 1, key n ρ G i⟩
theorem iXApp {to : DTE} {tx : XTE} {Z : DZ} {ρ : DSt} {G : GH} {Q : DK} (h : to ρ G fun o G1 => (∃ a l, o = .ref a ∧ G1 a = some (.lst l)) ∧ tx Z ρ G1 fun y G2 => mAppend o [y] G2 Q) : xApp to tx Z ρ G Q := h
def rdF (b : Array UInt8) (k : Nat) : List (Str × D) := [("own_data", .byt b), ("spot", .int (k : Nat))]
def RdL (G : GH) (a : Addr) (b : Array UInt8) (l : List Nat) : Prop := G a = some (.ins "ByteReader" (rdF b (b.size - l.length))) ∧ ∃ pre, byN b = pre ++ l
theorem RdL.grow {G G' : GH} {a : Addr} {b : Array UInt8} {l : List Nat} (h : RdL G a b l) (g : Grow G G') : RdL G' a b l := ⟨g _ _ h.1, h.2⟩
theorem RdL.keep {G G' : GH} {a c : Addr} {b : Array UInt8} {l : List Nat} (h : RdL G a b l) (hne : a ≠ c) (g : K03.KeepX c G G') : RdL G' a b l := ⟨g _ _ hne h.1, h.2⟩
theorem RdL.le {G : GH} {a : Addr} {b : Array UInt8} {l : List Nat} (h : RdL G a b l) : l.length ≤ b.size := by
  obtain ⟨pre, e⟩ := h.2
  rw [← byN_len, e, List.length_append]; omega
theorem RdL.lt {G : GH} {a : Addr} {b : Array UInt8} {l : List Nat} (h : RdL G a b l) : ∀ c ∈ l, c < 256 := by
  obtain ⟨pre, e⟩ := h.2
  intro c hc
  exact byN_lt b c (by rw [e]; exact List.mem_append_right _ hc)
theorem RdL.at {G : GH} {a : Addr} {b : Array UInt8} {c : Nat} {l : List Nat} (h : RdL G a b (c :: l)) : (b.toList.getD (b.size - (c :: l).length) 0).toNat = c := by
  obtain ⟨pre, e⟩ := h.2
  have hl : b.size - (c :: l).length = pre.length := by rw [← byN_len, e, List.length_append]; omega
  rw [hl]
  have e2 : (byN b)[pre.length]? = some c := by rw [e]; simp
  unfold byN at e2
  rw [List.getElem?_map] at e2
  obtain ⟨x, hx, rfl⟩ := Option.map_eq_some_iff.mp e2
  rw [List.getD_eq_getElem?_getD, hx]; rfl
theorem put_spot (b : Array UInt8) (k : Nat) (x : Int) (y : Nat) (e : x = (y : Nat)) : putFD "spot" (.int x) (rdF b k) = rdF b y := by
  subst e
  unfold rdF
  rfl
theorem KeepX.of {a : Addr} {G G' : GH} (h : Grow G G') : K03.KeepX a G G' := fun b o _ e => h b o e
def spIni : DSp := fun ds G Q _ => ∃ a b, ds = [.ref a, .byt b] ∧ G a = some (.ins "ByteReader" []) ∧ ∀ G', K03.KeepX a G G' → RdL G' a b (byN b) → Q .non G'
def spHm : DSp := fun ds G Q _ => ∃ a b l, ds = [.ref a] ∧ RdL G a b l ∧ b.size ≤ 1000 ∧ ∀ G', Grow G G' → Q (.bl (decide (0 < l.length))) G'
def spTb : DSp := fun ds G Q E => ∃ a b l lo hi, ds = [.ref a, .int lo, .int hi] ∧ RdL G a b l ∧ b.size ≤ 1000 ∧
  (∀ (c : Nat) l', l = c :: l' → lo ≤ c → (c : Int) < hi → ∀ G', K03.KeepX a G G' → RdL G' a b l' → Q (.int (c : Nat)) G') ∧
  ((∀ (c : Nat) l', l = c :: l' → ¬ (lo ≤ c ∧ (c : Int) < hi)) → ∀ G', K03.KeepX a G G' → E (K03.nuA "byte" ((b.size - l.length : Nat) : Int)) G')
theorem ini_rd : ∀ ds G Q E, spIni ds G Q E → r_ByteReader___init__ { nx := fun _ G' => Q .non G', rt := Q } (startD 2 ds) G := by
  rintro ds G Q E ⟨a, b, rfl, e, hq⟩
  unfold r_ByteReader___init__
  walk_at "ds"
  refine gfld_i updG_same (by show (1 : Nat) < 1000; decide) ?_
  refine hq _ ?_ ?_
  · exact K03.KeepX.upd.trans K03.KeepX.upd
  · refine ⟨?_, [], rfl⟩
    rw [updG_same, byN_len, Nat.sub_self]; rfl
theorem lenB_i {b : Array UInt8} {G : GH} {Q : DK} (hb : b.size ≤ sizeLine) (h : Q (.int (b.size : Nat)) G) : rLenB [.byt b] G Q := ⟨hb, h⟩
theorem has_more_rd : ∀ ds G Q E, spHm ds G Q E → r_ByteReader_has_more { nx := fun _ G' => Q .non G', rt := Q } (startD 1 ds) G := by
  rintro ds G Q E ⟨a, b, l, rfl, hr, hb, hq⟩
  unfold r_ByteReader_has_more
  have hz : (3000 : Nat) ≤ sizeLine := by decide
  have e := hr.1
  have hle := hr.le
  walk_at "ds"
  refine lenB_i (by omega) ?_
  walk_at "ds"
  have := hq _ (Grow.refl _)
  rw [show decide (((b.size - l.length : Nat) : Int) < (b.size : Nat)) = decide (0 < l.length) from by rw [decide_eq_decide]; omega]
  exact this
theorem ixB_i {b : Array UInt8} {k : Int} {G : GH} {Q : DK} (hb : b.size ≤ sizeLine) (h0 : 0 ≤ k) (h1 : k < (b.size : Nat)) (h : Q (.int ((b.toList.getD k.toNat 0).toNat : Nat)) G) : rIxB (.byt b) (.int k) G Q := ⟨hb, h0, h1, h⟩
theorem iChain {r r' : DR2} {ta tb tc : DTE} {ρ : DSt} {G : GH} {Q : DK} (h : ta ρ G fun x G1 => tb ρ G1 fun y G2 => r x y G2 fun z G3 => match z with
  | .bl k => if k = true then tc ρ G3 fun w G4 => r' y w G4 Q else Q (.bl false) G3
  | _ => False) : dChain r r' ta tb tc ρ G Q := h
theorem take_byte_rd : ∀ ds G Q E, spTb ds G Q E → r_ByteReader_take_byte (pSpX K03.RUx) spHm (fun x _ G' => E x G') { nx := fun _ G' => Q .non G', rt := Q } (startD 3 ds) G := by
  rintro ds G Q E ⟨a, b, l, lo, hi, rfl, hr, hb, hq, hx⟩
  unfold r_ByteReader_take_byte
  have hz : (3000 : Nat) ≤ sizeLine := by decide
  have e := hr.1
  have hle := hr.le
  walk_at "ds"
  refine ⟨a, b, l, rfl, hr, hb, fun G1 g1 => ?_⟩
  have e1 := g1 _ _ e
  cases l with
  | nil =>
    refine andVDF (by simp) ?_
    walk_at "ds"
    refine ⟨_, ⟨false, "byte", _, rfl, rfl⟩, fun G2 g2 => ?_⟩
    exact hx (fun c l' h => by cases h) _ (KeepX.of (g1.trans g2))
  | cons c l =>
    refine andVDT (by simp) ?_
    refine iChain ?_
    walk_at "ds"
    refine ixB_i (by omega) (by omega) (by simp at hle ⊢; omega) ?_
    rw [Int.toNat_natCast, hr.at]
    walk_at "ds"
    by_cases h1 : lo ≤ (c : Int)
    · refine ifDT h1 ?_
      walk_at "ds"
      by_cases h2 : (c : Int) < hi
      · rw [decide_eq_true h2]
        refine ⟨_, ⟨true, "byte", _, rfl, rfl⟩, fun G2 g2 => ?_⟩
        dsimp only [K03.ruO]
        have e2 := g2 _ _ e1
        refine iXSeq ?_
        refine iXPs ?_
        refine iFAug ?_
        walk_at "ds"
        refine ⟨a, _, _, rfl, e2, rfl, ?_⟩
        walk_at "ds"
        refine ⟨_, _, rfl, e2, by show (2 : Nat) < 1000; decide, ?_⟩
        rw [put_spot b _ _ (b.size - l.length) (by simp at hle ⊢; omega)]
        walk_at "ds"
        refine ixB_i (by omega) (by simp at hle ⊢; omega) (by simp at hle ⊢; omega) ?_
        rw [show (((b.size - l.length : Nat) : Int) - 1).toNat = b.size - (c :: l).length from by simp at hle ⊢; omega, hr.at]
        refine hq c l rfl h1 h2 _ ?_ ?_
        · exact (KeepX.of (g1.trans g2)).trans K03.KeepX.upd
        · obtain ⟨pre, ep⟩ := hr.2
          exact ⟨updG_same, pre ++ [c], by rw [ep]; simp⟩
      · rw [decide_eq_false h2]
        refine ⟨_, ⟨false, "byte", _, rfl, rfl⟩, fun G2 g2 => ?_⟩
        exact hx (fun c' l' h => by injection h with h _; subst h; exact fun h => h2 h.2) _ (KeepX.of (g1.trans g2))
    · refine ifDF h1 ?_
      walk_at "ds"
      refine ⟨_, ⟨false, "byte", _, rfl, rfl⟩, fun G2 g2 => ?_⟩
      exact hx (fun c' l' h => by injection h with h _; subst h; exact fun h => h1 h.1) _ (KeepX.of (g1.trans g2))
def spTd : DSp := fun ds G Q E => ∃ a b l, ds = [.ref a] ∧ RdL G a b l ∧ b.size ≤ 1000 ∧
  (∀ q : Nat × List Nat, tdP l = .ok q → ∀ G', K03.KeepX a G G' → RdL G' a b q.2 → Q (.int (q.1 : Nat)) G') ∧
  (∀ r, tdP l = .error r → ∀ G', K03.KeepX a G G' → E (K03.nuA "byte" ((b.size - r : Nat) : Int)) G')
theorem take_digits_rd : ∀ ds G Q E, spTd ds G Q E → r_ByteReader_take_digits spTb (fun x _ G' => E x G') { nx := fun _ G' => Q .non G', rt := Q } (startD 4 ds) G := by
  rintro ds G Q E ⟨a, b, l, rfl, hr, hb, hq, hx⟩
  unfold r_ByteReader_take_digits
  have hz : (3000 : Nat) ≤ sizeLine := by decide
  have e := hr.1
  have hle := hr.le
  walk_at "ds"
  refine iMethY ?_
  walk_at "ds"
  refine ⟨a, _, rfl, e, rfl, ?_⟩
  walk_at "ds"
  refine ⟨rfl, a, b, l, 0, 256, rfl, hr, hb, ?_, ?_⟩
  · rintro m l' rfl h1 h2 G1 g1 hr1
    walk_at "ds"
    refine K03.iXFor ?_
    walk_at "ds"
    rw [tdP] at hq hx
    refine ⟨by omega, by omega, ?_⟩
    refine dForGo_of (I := fun rest ρ G' => ∃ (i j n : Nat) (L : List Nat) (x3 : Option D), rest = (List.range' i j).map (fun k => D.int (k : Nat)) ∧ ρ = [some (.ref a), some (.int (m : Nat)), some (.int (n : Nat)), x3] ∧ RdL G' a b L ∧ dgP m true 0 l' = dgP j (decide (i = 0)) n L ∧ K03.KeepX a G G') ?_ ?_ _ _ _
      ⟨0, m, 0, l', none, by unfold rngD; rw [Int.toNat_natCast, List.range_eq_range']; exact List.map_congr_left fun x _ => by simp, rfl, hr1, rfl, g1⟩
    · rintro ρ G2 ⟨i, j, n, L, x3, hM, rfl, hr2, e2, g2⟩
      refine ⟨trivial, ?_⟩
      obtain rfl : j = 0 := by cases j with | zero => rfl | succ j => simp [List.range'] at hM
      walk_at "ds"
      exact hq (n, L) (by rw [e2, dgP]) _ g2 hr2
    · rintro y rest ρ G2 ⟨i, j, n, L, x3, hM, rfl, hr2, e2, g2⟩ K hK
      refine ⟨trivial, ?_⟩
      cases j with
      | zero => simp at hM
      | succ j =>
        rw [List.range'_succ, List.map_cons] at hM
        injection hM with h1 h2
        subst h1; subst h2
        have e3 := hr2.1
        walk_at "ds"
        refine mul_ii (.inr (by decide)) ?_
        refine iMethY ?_
        walk_at "ds"
        refine ⟨a, _, rfl, e3, rfl, ?_⟩
        walk_at "ds"
        have go : ∀ lo : Int, (lo = if i = 0 then 1 else 0) → spTb [.ref a, .int lo, .int 256] G2 (fun y G4 => rAdd (.int ((n : Int) * 256)) y G4 fun x G5 => gNm 2 x [some (.ref a), some (.int (m : Nat)), some (.int (n : Nat)), some (.int (i : Nat))] G5 K) (fun x G4 => E x G4) := by
          intro lo hlo
          refine ⟨a, b, L, lo, 256, rfl, hr2, hb, ?_, ?_⟩
          · rintro c L' rfl h1 h2 G3 g3 hr3
            walk_at "ds"
            refine hK _ _ ⟨i + 1, j, n * 256 + c, L', _, rfl, rfl, hr3, ?_, g2.trans g3⟩
            rw [e2, dgP, if_neg]
            · rw [show decide (i + 1 = 0) = false from by simp]
            · rintro ⟨h3, rfl⟩
              rw [decide_eq_true_eq] at h3
              rw [if_pos h3] at hlo
              omega
          · intro hno G3 g3
            refine hx L.length ?_ _ (g2.trans g3)
            rw [e2]
            cases L with
            | nil => rw [dgP]; rfl
            | cons c L' =>
              have h3 := hno c L' rfl
              have h4 := hr2.lt c (List.mem_cons_self ..)
              rw [dgP, if_pos]; · rfl
              refine ⟨?_, ?_⟩
              · rw [decide_eq_true_eq]
                by_cases h5 : i = 0
                · exact h5
                · rw [if_neg h5] at hlo; omega
              · split at hlo <;> omega
        by_cases hi : i = 0
        · subst hi
          refine ifDT (by decide) ?_
          walk_at "ds"
          exact ⟨rfl, go 1 rfl⟩
        · refine ifDF (by omega) ?_
          walk_at "ds"
          exact ⟨rfl, go 0 (by rw [if_neg hi])⟩
  · intro hno G1 g1
    refine hx l.length ?_ _ g1
    cases l with
    | nil => rfl
    | cons c l =>
      have h3 := hno c l rfl
      have h4 := hr.lt c (List.mem_cons_self ..)
      omega
end K06

namespace K06
open PySem L2 Dl 
local macro_rules | `(tactic| walk_at "ds") => `(tactic| repeat' with_reducible first
  | refine iVar (by with_unfolding_all rfl) ?_
  | refine iCons ?_
  | refine iNil ?_
  | refine iC ?_
  | refine iOp ?_
  | refine iAsg ?_
  | refine iGNm ?_
  | refine iTup ?_
  | refine iFrz ?_
  | refine iTst ?_
  | refine iRet ?_
  | refine iLst ?_
  | refine iXPe ?_
  | refine iXPa ?_
  | refine iXPt ?_
  | refine iXPs ?_
  | refine iXSeq ?_
  | refine iXDrop ?_
  | refine iXIfS ?_
  | refine iXAsg ?_
  | refine iXCons ?_
  | refine iXTup ?_
  | refine iXCall ?_
  | refine iNeg ?_
  | refine lstP_i (by assumption) ?_
  | refine lstP_i updG_same ?_
  | refine iRev ?_
  | refine iDrop ?_
  | refine lenOk (by with_unfolding_all rfl) ?_
  | refine iTru ?_
  | refine truB ?_
  | refine ifDT (by decide) ?_
  | refine ifDF (by decide) ?_
  | refine iIf ?_
  | refine iCB ?_
  | refine iMt ?_
  | refine iIsi ?_
  | refine iISq ?_
  | refine rIx_i (by with_unfolding_all rfl) (by with_unfolding_all rfl) ?_
  | refine rIx_i (by with_unfolding_all rfl) atI_0 ?_
  | refine int0 ?_
  | refine isi_T (by with_unfolding_all rfl) (by decide +kernel) ?_
  | refine isi_F (by with_unfolding_all rfl) (by decide +kernel) ?_
  | refine ifDT (by with_reducible_and_instances first | omega | (simp only [List.length_cons, List.length_nil]; omega)) ?_
  | refine ifDF (by with_reducible_and_instances first | omega | (simp only [List.length_cons, List.length_nil]; omega)) ?_
  | refine iMeth ?_
  | refine pmeth_i (by assumption) (by with_unfolding_all rfl) ?_
  | refine pmeth_i updG_same (by with_unfolding_all rfl) ?_
  | refine iMake ?_
  | fail "stuck")
theorem KeepX.upd2 {a p : Addr} {G G' : GH} {o : DO} (hp : G p = none) (h : K03.KeepX a G G') : K03.KeepX a G (updG G' p o) := fun b u n e => by
  rw [updG_ne (by rintro rfl; rw [hp] at e; cases e)]
  exact h b u n e
def wrapS : List Bool → Sn → Sn
  | [], s => s
  | r :: A, s => .side r (wrapS A s)
theorem wrapS_app : ∀ (A : List Bool) (r : Bool) (s : Sn), wrapS (A ++ [r]) s = wrapS A (.side r s)
  | [], r, s => rfl
  | x :: A, r, s => by rw [List.cons_append, wrapS, wrapS, wrapS_app A r s]
def wrapE (A : List Bool) : Except Nat (Sn × List Nat) → Except Nat (Sn × List Nat)
  | .ok q => .ok (wrapS A q.1, q.2)
  | .error r => .error r
theorem wrapE_step {A : List Bool} {c : Nat} {l : List Nat} (h1 : 4 < c) (h2 : c ≤ 6) (h3 : A.length ≤ 28) : wrapE A (sgP A.length (c :: l)) = wrapE (A ++ [c == 6]) (sgP (A.length + 1) l) := by
  rw [sgP, if_neg (by omega), if_pos h1]
  cases sgP (A.length + 1) l with
  | ok q => simp only [wrapE, wrapS_app]
  | error r => rfl
def sidL (A : List Bool) : List D := A.map fun r => .str (sidS r)
theorem sidL_app (A : List Bool) (r : Bool) : sidL (A ++ [r]) = sidL A ++ [.str (sidS r)] := by simp [sidL]
theorem sidL_len (A : List Bool) : (sidL A).length = A.length := by simp [sidL]
def spTs : DSp := fun ds G Q E => ∃ a b l, ds = [.ref a] ∧ RdL G a b l ∧ b.size ≤ 1000 ∧
  (∀ q : Sn × List Nat, sgP 0 l = .ok q → ∀ G', K03.KeepX a G G' → RdL G' a b q.2 → Q (snD q.1) G') ∧
  (∀ r, sgP 0 l = .error r → ∀ G', K03.KeepX a G G' → E (K03.nuA "byte" ((b.size - r : Nat) : Int)) G')
theorem take_sign_rd : ∀ ds G Q E, spTs ds G Q E → r_ByteReader_take_sign spTd spTb (fun x _ G' => E x G') { nx := fun _ G' => Q .non G', rt := Q } (startD 5 ds) G := by
  rintro ds G Q E ⟨a, b, l, rfl, hr, hb, hq, hx⟩
  unfold r_ByteReader_take_sign
  have hz : (3000 : Nat) ≤ sizeLine := by decide
  have e := hr.1
  walk_at "ds"
  intro p hp
  have hap : a ≠ p := by rintro rfl; rw [e] at hp; cases hp
  walk_at "ds"
  refine iMethY ?_
  walk_at "ds"
  have hr0 : RdL (updG G p (.lst [])) a b l := hr.grow (Grow.upd hp)
  have k0 : K03.KeepX a G (updG G p (.lst [])) := KeepX.of (Grow.upd hp)
  refine ⟨a, _, rfl, hr0.1, rfl, ?_⟩
  walk_at "ds"
  refine ⟨rfl, a, b, l, 0, 7, rfl, hr0, hb, ?_, ?_⟩
  · rintro c0 l0 rfl h01 h02 G1 g1 hr1
    walk_at "ds"
    refine xWhile_of (I := fun k ρ G2 => ∃ (A : List Bool) (c : Nat) (l : List Nat), ρ = [some (.ref a), some (.ref p), some (.int (c : Nat)), none, none] ∧ G2 p = some (.lst (sidL A)) ∧ RdL G2 a b l ∧ K03.KeepX a G G2 ∧ c ≤ 6 ∧ (4 < c → A.length ≤ 28) ∧ A.length ≤ 1000 ∧
      sgP 0 (c0 :: l0) = wrapE A (sgP A.length (c :: l)) ∧ l.length ≤ k) ?_ l0.length _ _ ⟨[], c0, l0, rfl, g1 _ _ (Ne.symm hap) updG_same, hr1, k0.trans g1, by omega, fun _ => by simp, by simp, ?_, Nat.le_refl _⟩
    · rintro k ρ G2 ⟨A, c, l, rfl, e1, hr2, k2, hc, hA, hA2, e2, hk⟩ K hK
      walk_at "ds"
      refine ifD (fun h5 => ?_) (fun h5 => ?_)
      · -- a side
        have h4 : 4 < c := by omega
        walk_at "ds"
        refine rIx_i (d := .str (sidS (c == 6))) rfl ?_ ?_
        · obtain rfl | rfl : c = 5 ∨ c = 6 := by omega
          · rfl
          · rfl
        walk_at "ds"
        have hA28 := hA h4
        refine app_i e1 (by rw [sidL_len]; omega) ?_
        walk_at "ds"
        have hap2 : a ≠ p := hap
        have hr3 : RdL (updG G2 p (.lst (sidL A ++ [.str (sidS (c == 6))]))) a b l := ⟨by rw [updG_ne hap2]; exact hr2.1, hr2.2⟩
        refine iMethY ?_
        walk_at "ds"
        refine ⟨a, _, rfl, hr3.1, rfl, ?_⟩
        walk_at "ds"
        refine len_r updG_same ?_
        walk_at "ds"
        have e3 : sgP 0 (c0 :: l0) = wrapE (A ++ [c == 6]) (sgP (A.length + 1) l) := by rw [e2, wrapE_step h4 hc hA28]
        have go : ∀ hi : Int, (hi = if A.length + 1 < 29 then 7 else 5) → spTb [.ref a, .int 0, .int hi] (updG G2 p (.lst (sidL A ++ [.str (sidS (c == 6))]))) (fun x G4 => gNm 2 x [some (.ref a), some (.ref p), some (.int (c : Nat)), none, none] G4 K) (fun x G4 => E x G4) := by
          intro hi hhi
          refine ⟨a, b, l, 0, hi, rfl, hr3, hb, ?_, ?_⟩
          · rintro c' l' rfl h1 h2 G3 g3 hr4
            walk_at "ds"
            refine hK (k - 1) (by simp at hk; omega) _ _ ⟨A ++ [c == 6], c', l', rfl, ?_, hr4, ?_, ?_, ?_, ?_, ?_, ?_⟩
            · rw [sidL_app]; exact g3 _ _ (Ne.symm hap) updG_same
            · exact (KeepX.upd2 hp k2).trans g3
            · split at hhi <;> omega
            · intro h6
              rw [List.length_append, List.length_singleton]
              split at hhi <;> omega
            · rw [List.length_append, List.length_singleton]; omega
            · rw [e3, List.length_append, List.length_singleton]
            · simp at hk; omega
          · intro hno G3 g3
            refine hx l.length ?_ _ ((KeepX.upd2 hp k2).trans g3)
            rw [e3]
            cases l with
            | nil => rw [sgP]; rfl
            | cons c' l' =>
              have h3 := hno c' l' rfl
              rw [sgP, if_pos]; · rfl
              split at hhi <;> omega
        rw [List.length_append, sidL_len, List.length_singleton]
        refine ifD (fun h6 => ?_) (fun h6 => ?_)
        · walk_at "ds"
          exact ⟨rfl, go 7 (by rw [if_pos (by omega)])⟩
        · walk_at "ds"
          exact ⟨rfl, go 5 (by rw [if_neg (by omega)])⟩
      · -- the sign itself
        have wrap : ∀ (s : Sn) (x3 : Option D) (G3 : GH) (l3 : List Nat), x3 = some (snD s) → sgP 0 (c0 :: l0) = .ok (wrapS A s, l3) → G3 p = some (.lst (sidL A)) → RdL G3 a b l3 → K03.KeepX a G G3 →
            (xSeq (xFor (iSq (dFrz (dRev (dVar 1)))) (gNm 4) (xPs (dAsg (dTup (dCons (dVar 4) (dCons (dVar 3) dNil))) (gNm 3)))) (xPs (dRet (dVar 3)))) (fun x _ G' => E x G') { nx := fun _ G' => Q .non G', rt := Q } [some (.ref a), some (.ref p), some (.int (c : Nat)), x3, none] G3 := by
          intro s x3 G3 l3 hx3 es e3 hr4 k3
          subst hx3
          walk_at "ds"
          refine K03.iXFor ?_
          walk_at "ds"
          refine revRf e3 ?_
          dsimp only
          refine dForGo_of (I := fun rest ρ G' => ∃ (A1 A2 : List Bool) (x4 : Option D), A = A1 ++ A2 ∧ rest = (sidL A1).reverse ∧ ρ = [some (.ref a), some (.ref p), some (.int (c : Nat)), some (snD (wrapS A2 s)), x4] ∧ G' = G3) ?_ ?_ _ _ _
            ⟨A, [], none, by simp, rfl, rfl, rfl⟩
          · rintro ρ G' ⟨A1, A2, x4, rfl, hM, rfl, rfl⟩
            refine ⟨trivial, ?_⟩
            obtain rfl : A1 = [] := by cases A1 with | nil => rfl | cons => simp [sidL] at hM
            walk_at "ds"
            exact hq (wrapS ([] ++ A2) s, l3) es _ k3 hr4
          · rintro y rest ρ G' ⟨A1, A2, x4, hA, hM, rfl, rfl⟩ K2 hK2
            refine ⟨trivial, ?_⟩
            rcases List.eq_nil_or_concat A1 with rfl | ⟨A0, r, rfl⟩
            · simp [sidL] at hM
            · rw [List.concat_eq_append, sidL_app, List.reverse_append, List.reverse_singleton, List.singleton_append] at hM
              injection hM with h1 h2
              subst h1; subst h2
              walk_at "ds"
              exact hK2 _ _ ⟨A0, r :: A2, _, by rw [hA]; simp, rfl, rfl, rfl⟩
        have e4 : sgP A.length (c :: l) = (if c = 0 then .ok (.tick, l) else if c = 1 then .ok (.more, l) else if c = 2 then .ok (.fin, l)
            else (match tdP l with
              | .ok q => .ok (.num (c == 4) q.1, q.2)
              | .error r => .error r)) := by rw [sgP, if_neg (by omega), if_neg (by omega)] <;> rfl
        walk_at "ds"
        refine ifD (fun h6 => ?_) (fun h6 => ?_)
        · walk_at "ds"
          obtain rfl | rfl | rfl : c = 0 ∨ c = 1 ∨ c = 2 := by omega
          · refine rIx_i (d := .str "tick") rfl rfl ?_
            refine iGNm ?_
            exact wrap .tick _ _ l rfl (by rw [e2, e4]; rfl) e1 hr2 k2
          · refine rIx_i (d := .str "more") rfl rfl ?_
            refine iGNm ?_
            exact wrap .more _ _ l rfl (by rw [e2, e4]; rfl) e1 hr2 k2
          · refine rIx_i (d := .str "end") rfl rfl ?_
            refine iGNm ?_
            exact wrap .fin _ _ l rfl (by rw [e2, e4]; rfl) e1 hr2 k2
        · rw [if_neg (by omega), if_neg (by omega), if_neg (by omega)] at e4
          walk_at "ds"
          refine rIx_i (d := .str (numS (c == 4))) rfl ?_ ?_
          · obtain rfl | rfl : c = 3 ∨ c = 4 := by omega
            · rfl
            · rfl
          refine iXCons ?_
          refine iMethY ?_
          walk_at "ds"
          refine ⟨a, _, rfl, hr2.1, rfl, ?_⟩
          walk_at "ds"
          refine ⟨rfl, a, b, l, rfl, hr2, hb, ?_, ?_⟩
          · intro q hqq G3 g3 hr3
            rw [hqq] at e4
            refine iXPa ?_
            refine iNil ?_
            refine ⟨by show (2 : Nat) ≤ sizeLine; omega, ?_⟩
            refine iGNm ?_
            exact wrap (.num (c == 4) q.1) _ _ q.2 rfl (by rw [e2, e4]; rfl) (g3 _ _ (Ne.symm hap) e1) hr3 (k2.trans g3)
          · intro r hrr G3 g3
            rw [hrr] at e4
            exact hx r (by rw [e2, e4]; rfl) _ (k2.trans g3)
    · rw [List.length_nil]
      cases sgP 0 (c0 :: l0) with
      | ok q => rfl
      | error r => rfl
  · intro hno G1 g1
    refine hx l.length ?_ _ (k0.trans g1)
    cases l with
    | nil => rfl
    | cons c l =>
      have h3 := hno c l rfl
      rw [sgP, if_pos (by omega)]; rfl
def unO (b : Array UInt8) : Except DX D := match allP b.size (byN b) with
  | .ok t => .ok (.tup (t.map snD))
  | .error r => .error (K03.nuA "byte" ((b.size - r : Nat) : Int))
def RUn : List D → Except DX D → Prop := fun ds o => (∃ b, ds = [.byt b] ∧ b.size ≤ 230 ∧ o = unO b) ∨ (∃ x, ds = [x] ∧ K03.Pln x = true ∧ o = .error (K03.nuA "data" (-1)))
def preE (T : List Sn) : Except Nat (List Sn) → Except Nat (List Sn)
  | .ok t => .ok (T ++ t)
  | .error r => .error r
theorem Grow.keepX {a : Addr} {G G1 G2 : GH} (ha : G a = none) (g : Grow G G1) (k : K03.KeepX a G1 G2) : Grow G G2 := fun b o e => k b o (by rintro rfl; rw [ha] at e; cases e) (g b o e)
theorem unpacked_rd : ∀ ds G Q E, pSpX RUn ds G Q E → r_unpacked (pSpX K03.RUx) spHm spTs spIni (fun x _ G' => E x G') { nx := fun _ G' => Q .non G', rt := Q } (startD 3 ds) G := by
  rintro ds G Q E ⟨o, hr, hq⟩
  unfold r_unpacked
  have hz : (3000 : Nat) ≤ sizeLine := by decide
  rcases hr with ⟨b, rfl, hb, rfl⟩ | ⟨x, rfl, hx, rfl⟩
  · walk_at "ds"
    refine ⟨_, ⟨true, "data", -1, rfl, rfl⟩, fun G1 g1 => ?_⟩
    dsimp only [K03.ruO]
    walk_at "ds"
    intro a ha1
    have ha : G a = none := by
      cases e : G a with
      | none => rfl
      | some o => rw [g1 a o e] at ha1; cases ha1
    refine ⟨a, b, rfl, updG_same, fun G2 g2 hr2 => ⟨rfl, ?_⟩⟩
    have k2 : Grow G G2 := Grow.keepX ha (Grow.upd2 ha g1) g2
    walk_at "ds"
    intro p hp2
    have hap : a ≠ p := by rintro rfl; rw [hr2.1] at hp2; cases hp2
    have hp : G p = none := by
      cases e : G p with
      | none => rfl
      | some o => rw [k2 p o e] at hp2; cases hp2
    walk_at "ds"
    refine xWhile_of (I := fun k ρ G3 => ∃ (T : List Sn) (l : List Nat) (m : Nat), ρ = [some (.byt b), some (.ref a), some (.ref p)] ∧ G3 p = some (.lst (T.map snD)) ∧ RdL G3 a b l ∧ Grow G G3 ∧ allP b.size (byN b) = preE T (allP m l) ∧ l.length ≤ m ∧ l.length ≤ k ∧ T.length + l.length ≤ 230) ?_ b.size _ _
      ⟨[], byN b, b.size, rfl, updG_same, hr2.grow (Grow.upd hp2), Grow.upd2 hp k2, ?_, by rw [byN_len]; omega, by rw [byN_len]; omega, by rw [byN_len]; simpa using hb⟩
    · rintro k ρ G3 ⟨T, l, m, rfl, e1, hr3, k3, e2, hm, hk, hT⟩ K hK
      walk_at "ds"
      refine pmeth_i hr3.1 rfl ?_
      walk_at "ds"
      refine ⟨a, b, l, rfl, hr3, by omega, fun G4 g4 => ?_⟩
      have e4 := g4 _ _ e1
      have hr4 := hr3.grow g4
      walk_at "ds"
      cases l with
      | nil =>
        refine ifDF (by simp) ?_
        walk_at "ds"
        refine tupC_r e4 ?_
        have := hq _ (k3.trans g4)
        unfold unO at this
        rw [e2, show allP m [] = .ok [] from by cases m <;> rfl, preE, List.append_nil] at this
        exact this
      | cons c l =>
        refine ifDT (by simp) ?_
        walk_at "ds"
        refine iXApp ?_
        walk_at "ds"
        refine ⟨⟨p, _, rfl, e4⟩, ?_⟩
        refine iMethY ?_
        walk_at "ds"
        refine ⟨a, _, rfl, hr4.1, rfl, ?_⟩
        walk_at "ds"
        cases m with
        | zero => simp at hm
        | succ m =>
        have hle := hr4.le
        refine ⟨rfl, a, b, _, rfl, hr4, by omega, ?_, ?_⟩
        · intro q hqq G5 g5 hr5
          have e5 := g5 _ _ (Ne.symm hap) e4
          refine app_i e5 (by rw [List.length_map]; omega) ?_
          obtain ⟨d, ed, hd, -⟩ := sgP_ok (c :: l) 0 q (by omega) (by omega) hr4.lt hqq
          have hlen : (c :: l).length = d.length + q.2.length := by rw [ed, List.length_append]
          simp only [List.length_cons] at hlen hk hm hT
          refine hK (k - 1) (by omega) _ _ ⟨T ++ [q.1], q.2, m, rfl, by rw [updG_same]; simp, ⟨by rw [updG_ne hap]; exact hr5.1, hr5.2⟩, Grow.upd2 hp (Grow.keepX ha (k3.trans g4) g5), ?_, by omega, by omega, by rw [List.length_append, List.length_singleton]; omega⟩
          rw [e2, allP, hqq]
          dsimp only
          cases allP m q.2 with
          | ok t => simp [preE]
          | error r => rfl
        · intro r hrr G5 g5
          have := hq _ (Grow.keepX ha (k3.trans g4) g5)
          unfold unO at this
          rw [e2, allP, hrr] at this
          exact this
    · cases allP b.size (byN b) with
      | ok t => rfl
      | error r => rfl
  · have fin : ∀ G', Grow G G' → E (K03.nuA "data" (-1)) G' := fun G' g => hq G' g
    cases x <;> first | (simp [K03.Pln] at hx; done) | (walk_at "ds"; refine ⟨_, ⟨false, "data", -1, rfl, rfl⟩, fun G2 g2 => ?_⟩; exact fin _ g2)
end K06

namespace K06
open PySem L2 Dl 
local macro_rules | `(tactic| walk_at "ds") => `(tactic| repeat' with_reducible first
  | refine iVar (by with_unfolding_all rfl) ?_
  | refine iCons ?_
  | refine iNil ?_
  | refine iC ?_
  | refine iOp ?_
  | refine iSeq ?_
  | refine iAsg ?_
  | refine iGNm ?_
  | refine iTup ?_
  | refine iFrz ?_
  | refine iTst ?_
  | refine iIfS ?_
  | refine iRet ?_
  | refine iLst ?_
  | refine iNext ?_
  | refine iPar3 ?_
  | refine lstP_i (by assumption) ?_
  | refine lstP_i updG_same ?_
  | refine isN_T ?_
  | refine isN_F (by with_unfolding_all rfl) ?_
  | refine iDrop ?_
  | refine iPar ?_
  | refine lenOk (by with_unfolding_all rfl) ?_
  | refine frzEnd ?_
  | refine iAnd ?_
  | refine iOr ?_
  | refine ifDT (by decide) ?_
  | refine ifDF (by decide) ?_
  | refine iIf ?_
  | refine ifT ?_
  | refine ifF ?_
  | refine iCB ?_
  | refine iMt ?_
  | refine iFor ?_
  | refine rIx_i (by with_unfolding_all rfl) (by with_unfolding_all rfl) ?_
  | refine rIx_i (by with_unfolding_all rfl) atI_0 ?_
  | refine eq_ii ?_
  | refine add_ii ?_
  | refine int0 ?_
  | refine len_l ?_
  | refine iIRg1 ?_
  | refine ifDT (by with_reducible_and_instances first | omega | (simp only [List.length_cons, List.length_nil]; omega)) ?_
  | refine ifDF (by with_reducible_and_instances first | omega | (simp only [List.length_cons, List.length_nil]; omega)) ?_
  | fail "stuck")
end K06

namespace K06
open PySem L2 Dl 
local macro_rules | `(tactic| walk_at "ds") => `(tactic| repeat' with_reducible first
  | refine iVar (by with_unfolding_all rfl) ?_
  | refine iCons ?_
  | refine iNil ?_
  | refine iC ?_
  | refine iOp ?_
  | refine iSeq ?_
  | refine iAsg ?_
  | refine iGNm ?_
  | refine iTup ?_
  | refine iFrz ?_
  | refine iTst ?_
  | refine iIfS ?_
  | refine iRet ?_
  | refine iCall ?_
  | refine iNext ?_
  | refine iXPa ?_
  | refine iXCall ?_
  | refine lenOk (by with_unfolding_all rfl) ?_
  | refine frzEnd ?_
  | refine iTru ?_
  | refine truB ?_
  | refine iOr ?_
  | refine iNot ?_
  | refine iIf ?_
  | refine ifF ?_
  | refine iCB ?_
  | refine iP ?_
  | refine iNoP ?_
  | refine iFor ?_
  | refine eq_strT ?_
  | refine ne_strT ?_
  | refine eq_ii ?_
  | refine add_ii ?_
  | refine min2_ii ?_
  | refine iIRg1 ?_
  | refine ifNT ?_
  | fail "stuck")
def qDr : Str := "_law_data_right.<locals>.<lambda>"
def RPc : List D → D → Prop := fun ds d => ∃ l : List Sn, ds = [.tup (l.map snD)] ∧ GoodRow l ∧ d = .byt (byL (cods l))
def RUc : List D → D → Prop := fun ds d => ∃ b t, ds = [.byt b] ∧ b.size ≤ 230 ∧ allP b.size (byN b) = .ok t ∧ d = .tup (t.map snD)
theorem packed_calm : ∀ ds G Q E, pSp RPc ds G Q E → pSpX RPk ds G Q noX := by
  rintro ds G Q E ⟨_, ⟨l, rfl, hl, rfl⟩, hq⟩
  exact pSpX_ok (d := .byt (byL (cods l))) (.inl ⟨l, rfl, hl, rfl⟩) fun G1 g1 => hq G1 g1
theorem unpacked_calm : ∀ ds G Q E, pSp RUc ds G Q E → pSpX RUn ds G Q noX := by
  rintro ds G Q E ⟨_, ⟨b, t, rfl, hb, h, rfl⟩, hq⟩
  exact pSpX_ok (d := .tup (t.map snD)) (.inl ⟨b, rfl, hb, by unfold unO; rw [h]⟩) fun G1 g1 => hq G1 g1
theorem all_pk {l : List Sn} (h : GoodRow l) : allP (byL (cods l)).size (byN (byL (cods l))) = .ok l := by
  rw [byN_byL (cods_lt h), byL_len]
  exact allP_cods l _ (fun s hs => (h.1 s hs).2) (cods_len l)
theorem row_ok {l : List Sn} (h : GoodRow l) : RowOk l (cods l).length := by
  have e := allP_cods l (cods l).length (fun s hs => (h.1 s hs).2) (cods_len l)
  exact allP_ok _ _ _ h.2 (cods_lt h) e
theorem iSlB {te : DTE} {tl th : DTO} {ρ : DSt} {G : GH} {Q : DK} (h : te ρ G fun x G1 => tl ρ G1 fun l G2 => th ρ G2 fun u G3 => rSlBy x l u G3 Q) : dSlB te tl th ρ G Q := h
end K06

namespace K06
open PySem L2 Dl 
local macro_rules | `(tactic| walk_at "ds") => `(tactic| repeat' with_reducible first
  | refine iVar (by with_unfolding_all rfl) ?_
  | refine iCons ?_
  | refine iNil ?_
  | refine iC ?_
  | refine iOp ?_
  | refine iSeq ?_
  | refine iAsg ?_
  | refine iGNm ?_
  | refine iTup ?_
  | refine iFrz ?_
  | refine iRet ?_
  | refine iLst ?_
  | refine iNeg ?_
  | refine lstP_i (by assumption) ?_
  | refine lstP_i updG_same ?_
  | refine iDrop ?_
  | refine lenOk (by with_unfolding_all rfl) ?_
  | refine frzEnd ?_
  | refine iMt ?_
  | refine add_llb (by with_unfolding_all rfl) ?_
  | refine add_ttb (by with_unfolding_all rfl) ?_
  | fail "stuck")
def rp (k : Nat) (l : List Nat) : List Nat := (List.replicate k l).flatten
end K06

namespace K06
open PySem L2 Dl 
local macro_rules | `(tactic| walk_at "ds") => `(tactic| repeat' with_reducible first
  | refine iVar (by with_unfolding_all rfl) ?_
  | refine iCons ?_
  | refine iNil ?_
  | refine iC ?_
  | refine iOp ?_
  | refine iSeq ?_
  | refine iAsg ?_
  | refine iGNm ?_
  | refine iTup ?_
  | refine iFrz ?_
  | refine iTst ?_
  | refine iIfS ?_
  | refine iRet ?_
  | refine iCall ?_
  | refine iLst ?_
  | refine iNext ?_
  | refine lstP_i (by assumption) ?_
  | refine lstP_i updG_same ?_
  | refine iDrop ?_
  | refine lenOk (by with_unfolding_all rfl) ?_
  | refine frzEnd ?_
  | refine iIf ?_
  | refine iCB ?_
  | refine iMt ?_
  | refine iSl ?_
  | refine iP ?_
  | refine iNoP ?_
  | refine iFor ?_
  | refine rIx_i (by with_unfolding_all rfl) (by with_unfolding_all rfl) ?_
  | refine rIx_i (by with_unfolding_all rfl) atI_0 ?_
  | refine eq_ii ?_
  | refine add_ii ?_
  | refine int0 ?_
  | refine tupC_l ?_
  | refine intC_i ?_
  | refine iIRg1 ?_
  | fail "stuck")
structure SmSg (m : Nat) (s : Sn) : Prop where
  ok : okN s
  sd : sds s ≤ m
  ln : (cod s).length ≤ 5 + m
  wt : wgD (snD s) ≤ 32 + 8 * m
theorem sm_num (w : Bool) {n m : Nat} (h : n ≤ 70000) : SmSg m (.num w n) := by
  have h3 : n < 256 ^ 3 := by have : (256 : Nat) ^ 3 = 16777216 := rfl; omega
  have h1 := dg_len 3 n h3
  have h2 := log_le h3
  have h4 := (len_num w).1
  refine ⟨Nat.lt_of_lt_of_le h3 (by decide +kernel), by simp [sds], ?_, ?_⟩
  · simp only [cod, nc, List.length_cons]; omega
  · simp only [snD, wgD, wgDs, Int.natAbs_natCast]; omega
theorem sm_tick (m : Nat) : SmSg m .tick := ⟨trivial, by simp [sds], by show 1 ≤ 5 + m; omega, by rw [show wgD (snD .tick) = 4 from by decide +kernel]; omega⟩
theorem sm_more (m : Nat) : SmSg m .more := ⟨trivial, by simp [sds], by show 1 ≤ 5 + m; omega, by rw [show wgD (snD .more) = 4 from by decide +kernel]; omega⟩
theorem sm_fin (m : Nat) : SmSg m .fin := ⟨trivial, by simp [sds], by show 1 ≤ 5 + m; omega, by rw [show wgD (snD .fin) = 3 from by decide +kernel]; omega⟩
theorem sm_side (r : Bool) {m : Nat} {s : Sn} (h : SmSg m s) : SmSg (m + 1) (.side r s) := by
  have h1 := h.sd
  have h2 := h.ln
  have h3 := h.wt
  have h4 := (len_sid r).1
  refine ⟨h.ok, by simp only [sds]; omega, ?_, ?_⟩
  · simp only [cod, List.length_cons]; omega
  · simp only [snD, wgD, wgDs]; omega
def spSg (n : Nat) : DSp := fun ds G Q _ => ∃ a m, ds = [.ref a, .int (m : Nat)] ∧ m < n ∧ m ≤ 3 ∧ K03.FeedOk G a ∧ ∀ s G', SmSg m s → K03.FeedOk G' a → K03.KeepX a G G' → Q (snD s) G'
theorem pick_num (l : List Nat) {r : Int} {G : GH} {Q : DK} (h0 : 0 ≤ r) (h1 : r < (l.length : Int)) (hl : ∀ x ∈ l, x ≤ 70000) (h : ∀ x : Nat, x ≤ 70000 → Q (.int (x : Nat)) G) : rIx (.lst (nsD l)) (.int r) G Q := by
  obtain ⟨j, rfl⟩ : ∃ j : Nat, r = (j : Nat) := ⟨r.toNat, by omega⟩
  have hj : j < l.length := by omega
  refine rIx_i (d := .int (l[j] : Nat)) rfl (Dl.atI_nat (by unfold nsD; rw [List.getElem?_map, List.getElem?_eq_getElem hj]; rfl)) ?_
  exact h _ (hl _ (List.getElem_mem hj))
theorem law_sign_rd {n : Nat} : ∀ ds G Q E, spSg (n + 1) ds G Q E → r_law_sign (spSg n) K03.spDraw { nx := fun _ G' => Q .non G', rt := Q } (startD 4 ds) G := by
  rintro ds G Q E ⟨a, m, rfl, hm, hm3, hf, hq⟩
  unfold r_law_sign
  have main : ∀ (M : Int) (r : Int) G1, (M = if 0 < m then 9 else 7) → 0 ≤ r → r < M → K03.FeedOk G1 a → K03.KeepX a G G1 →
      (dSeq (dIfS (dTst (dOp rLt (dVar 2) (dC (.int 4))))
  (dRet (dOp rIx (dFrz (dLst (dCons (dC (.str "tick")) (dCons (dC (.str "tick")) (dCons (dC (.str "more")) (dCons (dC (.str "end")) dNil)))))) (dVar 2)))
  dNext)
  (dSeq (dIfS (dTst (dOp rLt (dVar 2) (dC (.int 7))))
  (dSeq (dAsg (dOp rIx (dFrz (dLst (dCons (dC (.int 0)) (dCons (dC (.int 1)) (dCons (dC (.int 2)) (dCons (dC (.int 9)) (dCons (dC (.int 255)) (dCons (dC (.int 256)) (dCons (dC (.int 70000)) dNil))))))))) (dCall K03.spDraw (dCons (dVar 0) (dCons (dC (.int 7)) dNil)))) (gNm 3))
  (dRet (dTup (dCons (dOp rIx (dFrz (dLst (dCons (dC (.str "many")) (dCons (dC (.str "way")) dNil)))) (dOp rMod (dCB rIntC (dCons (dVar 2) dNil)) (dC (.int 2)))) (dCons (dVar 3) dNil)))))
  dNext)
  (dRet (dTup (dCons (dOp rIx (dFrz (dLst (dCons (dC (.str "left")) (dCons (dC (.str "right")) dNil)))) (dOp rSub (dVar 2) (dC (.int 7)))) (dCons (dCall (spSg n) (dCons (dVar 0) (dCons (dOp rSub (dVar 1) (dC (.int 1))) dNil))) dNil)))))) { nx := fun _ G' => Q .non G', rt := Q } [some (.ref a), some (.int (m : Nat)), some (.int r), none] G1 := by
    intro M r G1 hM h0 h1 f1 k1
    walk_at "ds"
    refine ifD (fun h4 => ?_) (fun h4 => ?_)
    · walk_at "ds"
      obtain rfl | rfl | rfl | rfl : r = 0 ∨ r = 1 ∨ r = 2 ∨ r = 3 := by omega
      · exact rIx_i (d := .str "tick") rfl rfl (hq .tick G1 (sm_tick m) f1 k1)
      · exact rIx_i (d := .str "tick") rfl rfl (hq .tick G1 (sm_tick m) f1 k1)
      · exact rIx_i (d := .str "more") rfl rfl (hq .more G1 (sm_more m) f1 k1)
      · exact rIx_i (d := .str "end") rfl rfl (hq .fin G1 (sm_fin m) f1 k1)
    · walk_at "ds"
      refine ifD (fun h7 => ?_) (fun h7 => ?_)
      · walk_at "ds"
        refine ⟨a, 7, rfl, by decide, by decide, f1, fun t G2 t0 t1 f2 k2 => ?_⟩
        refine pick_num [0, 1, 2, 9, 255, 256, 70000] t0 t1 (by decide) fun x hx => ?_
        walk_at "ds"
        refine int2 (by decide) ?_
        walk_at "ds"
        refine rIx_i (d := .str (numS (decide (r % 2 = 1)))) rfl ?_ ?_
        · obtain e | e : r % 2 = 0 ∨ r % 2 = 1 := by omega
          · rw [e]; rfl
          · rw [e]; rfl
        walk_at "ds"
        exact hq (.num (decide (r % 2 = 1)) x) G2 (sm_num _ hx) f2 (k1.trans k2)
      · walk_at "ds"
        refine rIx_i (d := .str (sidS (decide (r = 8)))) rfl ?_ ?_
        · obtain rfl | rfl : r = 7 ∨ r = 8 := by split at hM <;> omega
          · rfl
          · rfl
        walk_at "ds"
        have hm0 : 0 < m := by split at hM <;> omega
        refine ⟨a, m - 1, by rw [show ((m - 1 : Nat) : Int) = (m : Int) - 1 by omega], by omega, by omega, f1, fun s G2 hs f2 k2 => ?_⟩
        walk_at "ds"
        have := sm_side (decide (r = 8)) hs
        rw [show m - 1 + 1 = m by omega] at this
        exact hq _ G2 this f2 (k1.trans k2)
  walk_at "ds"
  refine ifD (fun h => ?_) (fun h => ?_)
  · walk_at "ds"
    refine ⟨a, 9, rfl, by decide, by decide, hf, fun r G1 r0 r1 f1 k1 => ?_⟩
    exact main 9 r G1 (by rw [if_pos (by omega)]) r0 r1 f1 k1
  · walk_at "ds"
    refine ⟨a, 7, rfl, by decide, by decide, hf, fun r G1 r0 r1 f1 k1 => ?_⟩
    exact main 7 r G1 (by rw [if_neg (by omega)]) r0 r1 f1 k1
def spSs : DSp := fun ds G Q _ => ∃ a, ds = [.ref a, .int 6] ∧ K03.FeedOk G a ∧ ∀ (l : List Sn) G', (∀ s ∈ l, SmSg 3 s) → l.length ≤ 6 → K03.FeedOk G' a → K03.KeepX a G G' → Q (.tup (l.map snD)) G'
theorem slR {a : Addr} {ds : List D} {lo hi : Option Int} {G : GH} {Q : DK} (e : G a = some (.lst ds)) (h : ∀ p, G p = none → Q (.ref p) (updG G p (.lst (cutD ds lo hi)))) : rSl (.ref a) lo hi G Q := by
  unfold rSl
  dsimp only
  rw [e]
  exact h
theorem feed_upd {a p : Addr} {G : GH} {o : DO} (h : K03.FeedOk G a) (hne : a ≠ p) : K03.FeedOk (updG G p o) a := by
  obtain ⟨c, x, y, z, e⟩ := h; exact ⟨c, x, y, z, by rw [updG_ne hne]; exact e⟩
theorem cut6 (l : List Sn) : ∃ l' : List Sn, cutD (l.map snD) none (some 6) = l'.map snD ∧ (∀ s ∈ l', s ∈ l) ∧ l'.length ≤ 6 := by
  refine ⟨l.take 6, ?_, fun s hs => List.mem_of_mem_take hs, by rw [List.length_take]; omega⟩
  unfold cutD HT.sIx
  rw [List.map_take, List.length_map]
  show ((l.map snD).take ((if (6 : Int) < 0 then ((6 : Int) + (l.length : Nat)).toNat else min (6 : Int).toNat l.length) - 0)) = _
  rw [if_neg (by decide)]
  by_cases h : l.length ≤ 6
  · rw [List.take_of_length_le (by rw [List.length_map]; show l.length ≤ min (6 : Int).toNat l.length - 0; have : (6 : Int).toNat = 6 := rfl; omega), List.take_of_length_le (by rw [List.length_map]; exact h)]
  · congr 1
    show min (6 : Int).toNat l.length - 0 = 6
    have : (6 : Int).toNat = 6 := rfl
    omega
theorem law_signs_rd {n : Nat} (hn : 4 ≤ n) : ∀ ds G Q E, spSs ds G Q E → r_law_signs K03.spDraw (spSg n) { nx := fun _ G' => Q .non G', rt := Q } (startD 4 ds) G := by
  rintro ds G Q E ⟨a, rfl, hf, hq⟩
  unfold r_law_signs
  have hz : (3000 : Nat) ≤ sizeLine := by decide
  walk_at "ds"
  intro p hp
  have hap : a ≠ p := hf.ne hp
  walk_at "ds"
  have f0 : K03.FeedOk (updG G p (.lst [])) a := feed_upd hf hap
  refine ⟨a, 7, rfl, by decide, by decide, f0, fun r G1 r0 r1 f1 k1 => ?_⟩
  walk_at "ds"
  refine ⟨by omega, by omega, ?_⟩
  have k01 : K03.KeepX a G G1 := (KeepX.of (Grow.upd hp)).trans k1
  refine dForGo_of (I := fun rest ρ G' => ∃ (l : List Sn) (x3 : Option D), (∀ s ∈ l, SmSg 3 s) ∧ l.length + 2 * rest.length ≤ 14 ∧ ρ = [some (.ref a), some (.int 6), some (.ref p), x3] ∧ G' p = some (.lst (l.map snD)) ∧ K03.FeedOk G' a ∧ K03.KeepX a G G') ?_ ?_ _ _ _
    ⟨[], none, fun s hs => (by cases hs), (by simp [rngD]; omega), rfl, k1 _ _ (Ne.symm hap) updG_same, f1, k01⟩
  · rintro ρ G2 ⟨l, x3, hl, hlen, rfl, e2, f2, k2⟩
    refine ⟨trivial, ?_⟩
    walk_at "ds"
    refine slR e2 ?_
    obtain ⟨l', e', hm', hl'⟩ := cut6 l
    rw [e']
    refine frzEnd ?_
    walk_at "ds"
    exact hq l' _ (fun s hs => hl s (hm' s hs)) hl' f2 k2
  · rintro y rest ρ G2 ⟨l, x3, hl, hlen, rfl, e2, f2, k2⟩ K hK
    refine ⟨trivial, ?_⟩
    rw [List.length_cons] at hlen
    walk_at "ds"
    refine ⟨a, 3, rfl, by omega, by omega, f2, fun s G3 hs f3 k3 => ?_⟩
    have e3 := k3 _ _ (Ne.symm hap) e2
    walk_at "ds"
    refine app_i e3 (by rw [List.length_map]; omega) ?_
    have el : l.map snD ++ [snD s] = (l ++ [s]).map snD := by simp
    rw [el]
    walk_at "ds"
    have f4 : K03.FeedOk (updG G3 p (.lst ((l ++ [s]).map snD))) a := feed_upd f3 hap
    have k4 : K03.KeepX a G (updG G3 p (.lst ((l ++ [s]).map snD))) := KeepX.upd2 hp (k2.trans k3)
    have hl4 : ∀ t ∈ l ++ [s], SmSg 3 t := by
      intro t ht
      rcases List.mem_append.mp ht with h | h
      · exact hl t h
      · rw [List.mem_singleton] at h; subst h; exact hs
    refine ⟨a, 4, rfl, by decide, by decide, f4, fun t G5 t0 t1 f5 k5 => ?_⟩
    have e5 := k5 _ _ (Ne.symm hap) updG_same
    walk_at "ds"
    refine ifD (fun h => ?_) (fun h => ?_)
    · walk_at "ds"
      refine len_r e5 ?_
      walk_at "ds"
      refine ⟨a, _, rfl, ?_, ?_, f5, fun u G6 u0 u1 f6 k6 => ?_⟩
      · simp; try omega
      · simp; try omega
      have e6 := k6 _ _ (Ne.symm hap) e5
      obtain ⟨j, rfl⟩ : ∃ j : Nat, u = (j : Nat) := ⟨u.toNat, by omega⟩
      have hj : j < (l ++ [s]).length := by rw [List.length_map] at u1; omega
      walk_at "ds"
      refine rIx_r (d := snD (l ++ [s])[j]) e6 (Dl.atI_nat (by rw [List.getElem?_map, List.getElem?_eq_getElem hj]; rfl)) ?_
      walk_at "ds"
      refine app_i e6 (by rw [List.length_map, List.length_append, List.length_singleton]; omega) ?_
      walk_at "ds"
      refine hK _ _ ⟨(l ++ [s]) ++ [(l ++ [s])[j]], _, ?_, by simp only [List.length_append, List.length_singleton]; omega, rfl, by rw [updG_same]; simp, feed_upd f6 hap, KeepX.upd2 hp ((k4.trans k5).trans k6)⟩
      intro t ht
      rcases List.mem_append.mp ht with h | h
      · exact hl4 t h
      · rw [List.mem_singleton] at h; subst h; exact hl4 _ (List.getElem_mem hj)
    · walk_at "ds"
      exact hK _ _ ⟨l ++ [s], _, hl4, by simp only [List.length_append, List.length_singleton]; omega, rfl, e5, f5, k4.trans k5⟩
end K06

namespace K06
open PySem L2 Dl 
local macro_rules | `(tactic| walk_at "ds") => `(tactic| repeat' with_reducible first
  | refine iVar (by with_unfolding_all rfl) ?_
  | refine iCons ?_
  | refine iNil ?_
  | refine iC ?_
  | refine iOp ?_
  | refine iSeq ?_
  | refine iAsg ?_
  | refine iGNm ?_
  | refine iTup ?_
  | refine iFrz ?_
  | refine iTst ?_
  | refine iIfS ?_
  | refine iRet ?_
  | refine iCall ?_
  | refine iLst ?_
  | refine iNext ?_
  | refine iXPa ?_
  | refine iXCall ?_
  | refine iPar3 ?_
  | refine iNeg ?_
  | refine lstP_i (by assumption) ?_
  | refine lstP_i updG_same ?_
  | refine iDrop ?_
  | refine lenOk (by with_unfolding_all rfl) ?_
  | refine frzEnd ?_
  | refine iTru ?_
  | refine truB ?_
  | refine iOr ?_
  | refine iNot ?_
  | refine iAndVK ?_
  | refine andVT ?_
  | refine ifF ?_
  | refine iCB ?_
  | refine iMt ?_
  | refine iFor ?_
  | refine iISq ?_
  | refine ne_strT ?_
  | refine int0 ?_
  | refine iIRg1 ?_
  | refine add_ttb (by with_unfolding_all rfl) ?_
  | refine ifNT ?_
  | fail "stuck")
def qLw : Str := "law.<locals>.<lambda>"
def rowD (l : List Sn) : D := .tup (l.map snD)
structure RwS (l : List Sn) : Prop where
  g : GoodRow l
  w : wgD (rowD l) ≤ 1200
def Tbs (Td Tl : Addr) (G : GH) : Prop := G Td = some (.tab qDr) ∧ G Tl = some (.tab qLw)
theorem Tbs.keep {Td Tl a : Addr} {G G' : GH} (h : Tbs Td Tl G) (f : K03.FeedOk G a) (k : K03.KeepX a G G') : Tbs Td Tl G' := by
  obtain ⟨_, _, _, _, e⟩ := f
  refine ⟨k _ _ ?_ h.1, k _ _ ?_ h.2⟩
  · rintro rfl; rw [h.1] at e; cases e
  · rintro rfl; rw [h.2] at e; cases e
theorem ok_use {w : Str} {k : Int} (h : PyData.strOk w = true) : okD (.tup [.str "use", .str w, .int k]) := ⟨by simp only [pureD, pureDs, h, Bool.and_true]; decide +kernel, by simp [depD, depDs]⟩
theorem eqv_use {w : Str} {k : Int} : eqvD (.tup [.str "use", .str w, .int k]) (.tup [.str "use", .str w, .int k]) = true := by simp [eqvD, eqvDs]
end K06

namespace K05
open PySem L2 Dl K06
local macro_rules | `(tactic| walk_at "ds") => `(tactic| repeat' with_reducible first
  | refine iVar (by with_unfolding_all rfl) ?_
  | refine iCons ?_
  | refine iNil ?_
  | refine iC ?_
  | refine iOp ?_
  | refine iSeq ?_
  | refine iAsg ?_
  | refine iGNm ?_
  | refine iTup ?_
  | refine iFrz ?_
  | refine iTst ?_
  | refine iIfS ?_
  | refine iRet ?_
  | refine iCall ?_
  | refine iLst ?_
  | refine iNext ?_
  | refine lstP_i (by assumption) ?_
  | refine lstP_i updG_same ?_
  | refine iDrop ?_
  | refine lenOk (by with_unfolding_all rfl) ?_
  | refine frzEnd ?_
  | refine iTru ?_
  | refine truB ?_
  | refine ifDT (by decide) ?_
  | refine ifDF (by decide) ?_
  | refine iIf ?_
  | refine ifT ?_
  | refine ifF ?_
  | refine iCB ?_
  | refine iMt ?_
  | refine iStar ?_
  | refine iIsi ?_
  | refine rIx_i (by with_unfolding_all rfl) (by with_unfolding_all rfl) ?_
  | refine rIx_i (by with_unfolding_all rfl) atI_0 ?_
  | refine add_ii ?_
  | refine int0 ?_
  | refine len_t ?_
  | refine add_llb (by with_unfolding_all rfl) ?_
  | refine isi_T (by with_unfolding_all rfl) (by decide +kernel) ?_
  | refine isi_F (by with_unfolding_all rfl) (by decide +kernel) ?_
  | refine ifDT (by with_reducible_and_instances first | omega | (simp only [List.length_cons, List.length_nil]; omega)) ?_
  | refine ifDF (by with_reducible_and_instances first | omega | (simp only [List.length_cons, List.length_nil]; omega)) ?_
  | fail "stuck")
theorem is_integer_rd : ∀ ds G Q E, pSp (K18.R1 K18.isIntB) ds G Q E → r_is_integer { nx := fun _ G' => Q .non G', rt := Q } (startD 1 ds) G := K18.is_integer_rd
theorem is_number_rd : ∀ ds G Q E, pSp (K18.R1 K18.isNumB) ds G Q E → r_is_number (pSp (K18.R1 K18.isIntB)) { nx := fun _ G' => Q .non G', rt := Q } (startD 1 ds) G := K18.is_number_rd
theorem is_sided_rd : ∀ ds G Q E, pSp (K18.R1 K18.sidedB) ds G Q E → r_is_sided { nx := fun _ G' => Q .non G', rt := Q } (startD 1 ds) G := K18.is_sided_rd
theorem is_sign_rd : ∀ ds G Q E, pSp (K18.R1 K18.isSgB) ds G Q E → r_is_sign (pSp (K18.R1 K18.isNumB)) (pSp (K18.R1 K18.sidedB)) { nx := fun _ G' => Q .non G', rt := Q } (startD 1 ds) G := K18.is_sign_rd
theorem is_signs_rd : ∀ ds G Q E, pSp K18.RSs ds G Q E → r_is_signs (pSp (K18.R1 K18.isSgB)) { nx := fun _ G' => Q .non G', rt := Q } (startD 2 ds) G := K18.is_signs_rd
theorem require_usable_rd : ∀ ds G Q E, pSpX K03.RUx ds G Q E → r_require_usable (fun x _ G' => E x G') { nx := fun _ G' => Q .non G', rt := Q } (startD 3 ds) G := K03.require_usable_rd
theorem law_draw_rd : ∀ ds G Q E, K03.spDraw ds G Q E → r_law_draw { nx := fun _ G' => Q .non G', rt := Q } (startD 6 ds) G := K03.law_draw_rd
theorem law_feed_rd : ∀ ds G Q E, K03.spFeed ds G Q E → r_law_feed { nx := fun _ G' => Q .non G', rt := Q } (startD 1 ds) G := K03.law_feed_rd
theorem law_sign_rd {n : Nat} : ∀ ds G Q E, spSg (n + 1) ds G Q E → r_law_sign (spSg n) K03.spDraw { nx := fun _ G' => Q .non G', rt := Q } (startD 4 ds) G := K06.law_sign_rd
theorem law_signs_rd {n : Nat} (hn : 4 ≤ n) : ∀ ds G Q E, spSs ds G Q E → r_law_signs K03.spDraw (spSg n) { nx := fun _ G' => Q .non G', rt := Q } (startD 4 ds) G := K06.law_signs_rd hn
def rk : Sn → List Int
  | .tick => [0]
  | .more => [1]
  | .fin => [2]
  | .num w n => [3 + (w.toNat : Nat), (n : Nat)]
  | .side r s => (5 + (r.toNat : Nat)) :: rk s
def inD' (l : List Int) : List D := l.map .int
theorem rk_len : ∀ s : Sn, (rk s).length ≤ 2 + sds s
  | .tick => by simp only [rk, List.length_cons, List.length_nil]; omega
  | .more => by simp only [rk, List.length_cons, List.length_nil]; omega
  | .fin => by simp only [rk, List.length_cons, List.length_nil]; omega
  | .num w n => by simp only [rk, List.length_cons, List.length_nil]; omega
  | .side r s => by have := rk_len s; simp only [rk, List.length_cons, sds]; omega
theorem rk_inj : ∀ s t : Sn, rk s = rk t → s = t
  | .tick, t, h => by cases t <;> simp [rk] at h ⊢ <;> omega
  | .more, t, h => by cases t <;> simp [rk] at h ⊢ <;> omega
  | .fin, t, h => by cases t <;> simp [rk] at h ⊢ <;> omega
  | .num w n, t, h => by
    cases t with
    | num w' n' =>
      simp [rk] at h
      have : w = w' := by cases w <;> cases w' <;> simp at h ⊢
      have h2 : n = n' := by omega
      rw [this, h2]
    | side r s => simp [rk] at h; cases w <;> cases r <;> simp at h
    | _ => simp [rk] at h
  | .side r s, t, h => by
    cases t with
    | side r' s' =>
      simp [rk] at h
      have : r = r' := by cases r <;> cases r' <;> simp at h ⊢
      rw [this, rk_inj s s' h.2]
    | num w n => simp [rk] at h; cases w <;> cases r <;> simp at h
    | tick => simp [rk] at h; omega
    | more => simp [rk] at h; omega
    | fin => simp [rk] at h; omega
def RRk : List D → D → Prop := fun ds d => ∃ s : Sn, ds = [snD s] ∧ sds s ≤ 200 ∧ d = .tup (inD' (rk s))
theorem sign_rank_rd : ∀ ds G Q E, pSp RRk ds G Q E → r_sign_rank (pSp (K18.R1 K18.sidedB)) { nx := fun _ G' => Q .non G', rt := Q } (startD 3 ds) G := by
  rintro ds G Q E ⟨_, ⟨s, rfl, hd, rfl⟩, hq⟩
  unfold r_sign_rank
  have hl := rk_len s
  have hz : (3000 : Nat) ≤ sizeLine := by decide
  walk_at "ds"
  intro p hp
  walk_at "ds"
  refine dWhile_of (I := fun k ρ G1 => ∃ (u : Sn) (l : List Int), ρ = [some (snD s), some (.ref p), some (snD u)] ∧ G1 p = some (.lst (inD' l)) ∧ rk s = l ++ rk u ∧ sds u ≤ k ∧ Grow G G1) ?_ (sds s) _ _ ⟨s, [], rfl, by rw [updG_same]; rfl, by simp, Nat.le_refl _, Grow.upd hp⟩
  rintro k ρ G1 ⟨u, l, rfl, e1, e2, hk, g1⟩ K hK
  have hlen : l.length ≤ 402 := by have := congrArg List.length e2; rw [List.length_append] at this; omega
  walk_at "ds"
  refine ⟨_, ⟨snD u, rfl, clean_sn u, rfl⟩, fun G2 g2 => ?_⟩
  have e3 := g2 _ _ e1
  have g3 := g1.trans g2
  rw [sided_sn]
  cases u with
  | side r u =>
    refine truB ?_
    rw [if_pos rfl]
    simp only [snD]
    walk_at "ds"
    refine idxT_i ?_
    walk_at "ds"
    refine ⟨_, r.toNat, rfl, sid_at r, idx2 (sid_at r) sid_ne, ?_⟩
    walk_at "ds"
    refine app_i e3 (by simp [inD']; omega) ?_
    walk_at "ds"
    rw [sds] at hk
    refine hK (k - 1) (by omega) _ _ ⟨u, l ++ [5 + ((r.toNat : Nat) : Int)], rfl, ?_, ?_, by omega, Grow.upd2 hp g3⟩
    · rw [updG_same]; simp [inD']
    · rw [e2, rk]; simp
  | num w n =>
    refine truB ?_
    rw [if_neg (by exact Bool.false_ne_true)]
    simp only [snD]
    walk_at "ds"
    rw [sqR e3]
    dsimp only
    walk_at "ds"
    refine idxT_i ?_
    walk_at "ds"
    refine ⟨_, w.toNat, rfl, num_at w, idx2 (num_at w) num_ne, ?_⟩
    walk_at "ds"
    refine ⟨by simp [inD']; omega, ?_⟩
    have := hq _ g3
    rw [e2, rk] at this
    simpa [inD'] using this
  | _ =>
    refine truB ?_
    rw [if_neg (by exact Bool.false_ne_true)]
    simp only [snD]
    walk_at "ds"
    rw [sqR e3]
    dsimp only
    walk_at "ds"
    refine idxT_i ?_
    walk_at "ds"
    first
      | refine ⟨_, 0, rfl, rfl, fun m hm => absurd hm (by omega), ?_⟩
      | refine ⟨_, 1, rfl, rfl, fun m hm => by match m, hm with | 0, _ => decide +kernel, ?_⟩
      | refine ⟨_, 2, rfl, rfl, fun m hm => by match m, hm with | 0, _ => decide +kernel | 1, _ => decide +kernel, ?_⟩
    walk_at "ds"
    refine ⟨by simp [inD']; omega, ?_⟩
    have := hq _ g3
    rw [e2, rk] at this
    simpa [inD'] using this
end K05

namespace K05
open PySem L2 Dl K06
local macro_rules | `(tactic| walk_at "ds") => `(tactic| repeat' with_reducible first
  | refine iVar (by with_unfolding_all rfl) ?_
  | refine iCons ?_
  | refine iNil ?_
  | refine iC ?_
  | refine iOp ?_
  | refine iFrz ?_
  | refine iRet ?_
  | refine iCall ?_
  | refine iXPa ?_
  | refine iXPs ?_
  | refine iXSeq ?_
  | refine iXDrop ?_
  | refine iXCall ?_
  | refine iNeg ?_
  | refine iCB ?_
  | refine iISq ?_
  | refine tupC_l ?_
  | fail "stuck")
def rkD (s : Sn) : D := .tup (inD' (rk s))
def erl : List Sn → List Sn → Bool
  | [], [] => false
  | [], _ :: _ => true
  | _ :: _, [] => false
  | x :: a, y :: b => if rk x = rk y then erl a b else lexI (rk x) (rk y)
theorem py_rk (s : Sn) : pyD (rkD s) = tupI (rk s) := by rw [rkD, inD', pyD, pyDs_ints]; rfl
theorem eqv_ints : ∀ a b : List Int, PyData.eqvAll (a.map .int) (b.map .int) = decide (a = b)
  | [], [] => by simp [PyData.eqvAll]
  | [], _ :: _ => by simp [PyData.eqvAll]
  | _ :: _, [] => by simp [PyData.eqvAll]
  | x :: a, y :: b => by
    simp only [List.map_cons, PyData.eqvAll, eqv_ints a b, PyData.eqv, List.cons.injEq]
    by_cases h : x = y
    · subst h; simp
    · simp [h]
theorem eqv_tupI (a b : List Int) : PyData.eqv (tupI a) (tupI b) = decide (a = b) := by rw [tupI, tupI, PyData.eqv, eqv_ints]
theorem lt_tupI (a b : List Int) : PySem.W.dataLt (tupI a) (tupI b) = lexI a b := by rw [tupI, tupI, PySem.W.dataLt_tuple]; exact tlt_ints a b
theorem cmp_tupI (a b : List Int) : cmpb (tupI a) (tupI b) = true := by rw [tupI, tupI, cmpb]; exact cmpbs_ints a b
theorem cmp_rows : ∀ a b : List Sn, cmpbs (pyDs (a.map rkD)) (pyDs (b.map rkD)) = true
  | [], [] => by simp [pyDs, cmpbs]
  | [], _ :: _ => by simp [pyDs, cmpbs]
  | _ :: _, [] => by simp [pyDs, cmpbs]
  | x :: a, y :: b => by
    simp only [List.map_cons, pyDs, py_rk, cmpbs, cmp_tupI, cmp_rows a b, Bool.or_true, Bool.and_true]
theorem tlt_rows : ∀ a b : List Sn, tlt (PySem.W.keyToksAll (pyDs (a.map rkD))) (PySem.W.keyToksAll (pyDs (b.map rkD))) = erl a b
  | [], [] => by rw [erl]; exact PyProof.Rows.lex_irrefl _
  | [], y :: b => by rw [erl]; exact (tlt_short _ _).1
  | x :: a, [] => by rw [erl]; exact (tlt_short _ _).2
  | x :: a, y :: b => by
    have hc := cmp_rows (x :: a) (y :: b)
    simp only [List.map_cons, pyDs, py_rk] at hc ⊢
    obtain ⟨c1, c2⟩ := cmpbs_cons hc
    rw [erl]
    by_cases h : rk x = rk y
    · rw [if_pos h, tlt_yes c1 (by rw [eqv_tupI]; exact decide_eq_true h), tlt_rows a b]
    · rw [if_neg h, tlt_no c1 (by rw [eqv_tupI]; exact decide_eq_false h)]
      exact lt_tupI _ _
theorem dlt_rows (a b : List Sn) : dlt (.tup (a.map rkD)) (.tup (b.map rkD)) = erl a b := by
  unfold dlt
  simp only [pyD, PySem.W.keyToks]
  exact tlt_rows a b
theorem pureDs_in (l : List Int) : pureDs (inD' l) = true := pureDs_ints l
theorem depDs_in : ∀ l : List Int, depDs (inD' l) = 0
  | [] => rfl
  | x :: l => by have := depDs_in l; simp only [inD', List.map_cons, depDs, depD] at this ⊢; omega
theorem ok_ranks (l : List Sn) : okD (.tup (l.map rkD)) := by
  have h : ∀ l : List Sn, pureDs (l.map rkD) = true ∧ depDs (l.map rkD) ≤ 1 := by
    intro l
    induction l with
    | nil => exact ⟨rfl, by simp [depDs]⟩
    | cons s l ih =>
      refine ⟨?_, ?_⟩
      · simp only [List.map_cons, pureDs, rkD, pureD, pureDs_in, Bool.true_and]; exact ih.1
      · simp only [List.map_cons, depDs, rkD, depD, depDs_in]; have := ih.2; unfold rkD at this; omega
  exact ⟨by rw [pureD]; exact (h l).1, by rw [depD]; have := (h l).2; omega⟩
structure RowOkS (l : List Sn) : Prop where
  sd : ∀ s ∈ l, sds s ≤ 7
  ln : l.length ≤ 1000
def RRs : List D → D → Prop := fun ds d => ∃ l : List Sn, ds = [.tup (l.map snD)] ∧ RowOkS l ∧ d = .tup (l.map rkD)
theorem signs_rank_rd : ∀ ds G Q E, pSp RRs ds G Q E → r_signs_rank (pSp RRk) { nx := fun _ G' => Q .non G', rt := Q } (startD 2 ds) G := by
  rintro ds G Q E ⟨_, ⟨l, rfl, hl, rfl⟩, hq⟩
  unfold r_signs_rank
  have hz : (3000 : Nat) ≤ sizeLine := by decide
  have := hl.ln
  walk_at "ds"
  refine lcF l snD rkD ?_ (by omega) ?_ ?_
  · intro P hP
    walk_at "ds"
    exact hP _ _ (fun _ => trivial) (Grow.refl _)
  · intro s hs
    refine ⟨_, rfl, fun G1 K hK => ?_⟩
    walk_at "ds"
    have := hl.sd s hs
    exact ⟨_, ⟨s, rfl, by omega, rfl⟩, fun G2 g2 => hK _ g2⟩
  intro G2 g2
  walk_at "ds"
  exact hq _ g2
structure BadRow (x : D) : Prop where
  c : cleanD x = true
  l : ∀ l, x = .tup l → l.length ≤ sizeLine
  n : K18.isSgsB x = false
theorem row_sgs {l : List Sn} (h : RowOkS l) : cleanD (.tup (l.map snD)) = true ∧ (∀ m, (.tup (l.map snD) : D) = .tup m → m.length ≤ sizeLine) := by
  have hz : (3000 : Nat) ≤ sizeLine := by decide
  refine ⟨by simp only [cleanD, K18.cleanDs_iff]; intro d hd; obtain ⟨s, -, rfl⟩ := List.mem_map.mp hd; exact clean_sn s, fun m e => by injection e with e; subst e; have := h.ln; simp; omega⟩
def RAh : List D → Except DX D → Prop := fun ds o => (∃ a b : List Sn, ds = [.tup (a.map snD), .tup (b.map snD)] ∧ RowOkS a ∧ RowOkS b ∧ o = .ok (.bl (erl a b))) ∨
  (∃ x y, ds = [x, y] ∧ BadRow x ∧ o = .error (K03.nuA "signs" (-1))) ∨ (∃ (a : List Sn) (y : D), ds = [.tup (a.map snD), y] ∧ RowOkS a ∧ BadRow y ∧ o = .error (K03.nuA "other" (-1)))
theorem is_ahead_rd : ∀ ds G Q E, pSpX RAh ds G Q E → r_is_ahead (pSp RRs) (pSp K18.RSs) (pSpX K03.RUx) (fun x _ G' => E x G') { nx := fun _ G' => Q .non G', rt := Q } (startD 2 ds) G := by
  rintro ds G Q E ⟨o, hr, hq⟩
  unfold r_is_ahead
  have hz : (3000 : Nat) ≤ sizeLine := by decide
  rcases hr with ⟨a, b, rfl, ha, hb, rfl⟩ | ⟨x, y, rfl, hb, rfl⟩ | ⟨a, y, rfl, ha, hb, rfl⟩
  · obtain ⟨a1, a2⟩ := row_sgs ha
    obtain ⟨b1, b2⟩ := row_sgs hb
    walk_at "ds"
    refine ⟨_, ⟨_, rfl, a1, a2, rfl⟩, fun G1 g1 => ?_⟩
    rw [isSgs_sn]
    walk_at "ds"
    refine ⟨_, ⟨true, "signs", -1, rfl, rfl⟩, fun G2 g2 => ?_⟩
    dsimp only [K03.ruO]
    walk_at "ds"
    refine ⟨_, ⟨_, rfl, b1, b2, rfl⟩, fun G3 g3 => ?_⟩
    rw [isSgs_sn]
    walk_at "ds"
    refine ⟨_, ⟨true, "other", -1, rfl, rfl⟩, fun G4 g4 => ?_⟩
    dsimp only [K03.ruO]
    walk_at "ds"
    refine ⟨_, ⟨a, rfl, ha, rfl⟩, fun G5 g5 => ?_⟩
    walk_at "ds"
    refine ⟨_, ⟨b, rfl, hb, rfl⟩, fun G6 g6 => ?_⟩
    refine ltT_i (ok_ranks a) (ok_ranks b) (by simp only [pyD, cmpb]; exact cmp_rows a b) ?_
    rw [dlt_rows]
    exact hq _ (((((g1.trans g2).trans g3).trans g4).trans g5).trans g6)
  · walk_at "ds"
    refine ⟨_, ⟨_, rfl, hb.c, hb.l, rfl⟩, fun G1 g1 => ?_⟩
    rw [hb.n]
    walk_at "ds"
    refine ⟨_, ⟨false, "signs", -1, rfl, rfl⟩, fun G2 g2 => ?_⟩
    dsimp only [K03.ruO]
    exact hq _ (g1.trans g2)
  · obtain ⟨a1, a2⟩ := row_sgs ha
    walk_at "ds"
    refine ⟨_, ⟨_, rfl, a1, a2, rfl⟩, fun G1 g1 => ?_⟩
    rw [isSgs_sn]
    walk_at "ds"
    refine ⟨_, ⟨true, "signs", -1, rfl, rfl⟩, fun G2 g2 => ?_⟩
    dsimp only [K03.ruO]
    walk_at "ds"
    refine ⟨_, ⟨_, rfl, hb.c, hb.l, rfl⟩, fun G3 g3 => ?_⟩
    rw [hb.n]
    walk_at "ds"
    refine ⟨_, ⟨false, "other", -1, rfl, rfl⟩, fun G4 g4 => ?_⟩
    dsimp only [K03.ruO]
    exact hq _ (((g1.trans g2).trans g3).trans g4)
end K05

namespace K05
open PySem L2 Dl K06
local macro_rules | `(tactic| walk_at "ds") => `(tactic| repeat' with_reducible first
  | fail "stuck")
def ltS (s t : Sn) : Prop := lexI (rk s) (rk t) = true
instance (s t : Sn) : Decidable (ltS s t) := inferInstanceAs (Decidable (_ = true))
instance : DecidableEq Sn := fun s t => if h : rk s = rk t then .isTrue (rk_inj s t h) else .isFalse fun e => h (by rw [e])
theorem lexI_trans : ∀ a b c : List Int, lexI a b = true → lexI b c = true → lexI a c = true
  | [], [], _, h, _ => by simp [lexI] at h
  | [], _ :: _, [], _, h => by simp [lexI] at h
  | [], _ :: _, _ :: _, _, _ => rfl
  | _ :: _, [], _, h, _ => by simp [lexI] at h
  | _ :: _, _ :: _, [], _, h => by simp [lexI] at h
  | x :: a, y :: b, z :: c, h, h2 => by
    rw [lexI] at h h2 ⊢
    by_cases e1 : x = y
    · subst e1
      rw [if_pos rfl] at h
      by_cases e2 : x = z
      · subst e2
        rw [if_pos rfl] at h2 ⊢
        exact lexI_trans a b c h h2
      · rw [if_neg e2] at h2 ⊢; exact h2
    · rw [if_neg e1] at h
      by_cases e2 : y = z
      · subst e2
        rw [if_neg e1]; exact h
      · rw [if_neg e2] at h2
        simp only [decide_eq_true_eq] at h h2
        rw [if_neg (by omega)]
        exact decide_eq_true (by omega)
theorem ltS_irr (s : Sn) : ¬ ltS s s := by unfold ltS; rw [lexI_irr]; exact Bool.false_ne_true
theorem ltS_tr {a b c : Sn} (h : ltS a b) (h2 : ltS b c) : ltS a c := lexI_trans _ _ _ h h2
theorem ltS_or (a b : Sn) : ltS a b ∨ a = b ∨ ltS b a := by
  unfold ltS
  cases h : lexI (rk a) (rk b) with
  | true => exact .inl rfl
  | false =>
    cases h2 : lexI (rk b) (rk a) with
    | true => exact .inr (.inr rfl)
    | false => exact .inr (.inl (rk_inj _ _ (lexI_tri _ _ h h2)))
def insS (l : List Sn) (s : Sn) : List Sn := if s ∈ l then l else l.take (l.filter fun t => decide (ltS t s)).length ++ [s] ++ l.drop (l.filter fun t => decide (ltS t s)).length
def srF (acc l : List Sn) : List Sn := l.foldl insS acc
def srS (l : List Sn) : List Sn := srF [] l
abbrev AscS (l : List Sn) : Prop := l.Pairwise ltS
theorem low_take {s : Sn} : ∀ {l : List Sn}, AscS l → l.filter (fun t => decide (ltS t s)) = l.take (l.filter fun t => decide (ltS t s)).length
  | [], _ => by simp
  | x :: l, h => by
    have h' := List.pairwise_cons.mp h
    by_cases hx : ltS x s
    · rw [List.filter_cons_of_pos (by simpa using hx), List.length_cons, List.take_succ_cons, ← low_take h'.2]
    · have : (x :: l).filter (fun t => decide (ltS t s)) = [] := by
        rw [List.filter_eq_nil_iff]
        intro t ht
        rcases List.mem_cons.mp ht with e | e
        · subst e; simpa using hx
        · simp only [decide_eq_true_eq]
          exact fun q => hx (ltS_tr (h'.1 t e) q)
      rw [this]; simp
theorem high_drop {s : Sn} : ∀ {l : List Sn}, AscS l → ∀ t ∈ l.drop (l.filter fun t => decide (ltS t s)).length, ¬ ltS t s
  | [], _, t, ht => by simp at ht
  | x :: l, h, t, ht => by
    have h' := List.pairwise_cons.mp h
    by_cases hx : ltS x s
    · rw [List.filter_cons_of_pos (by simpa using hx), List.length_cons, List.drop_succ_cons] at ht
      exact high_drop h'.2 t ht
    · have ht' : t ∈ x :: l := List.mem_of_mem_drop ht
      rcases List.mem_cons.mp ht' with e | e
      · subst e; exact hx
      · exact fun q => hx (ltS_tr (h'.1 t e) q)
theorem mem_ins {l : List Sn} {s t : Sn} : t ∈ insS l s ↔ t ∈ l ∨ t = s := by
  unfold insS
  split
  · rename_i h
    exact ⟨.inl, fun q => q.elim id fun e => e ▸ h⟩
  · rw [List.mem_append, List.mem_append, List.mem_singleton]
    constructor
    · rintro ((h | h) | h)
      · exact .inl (List.mem_of_mem_take h)
      · exact .inr h
      · exact .inl (List.mem_of_mem_drop h)
    · rintro (h | h)
      · rw [← List.take_append_drop (l.filter fun t => decide (ltS t s)).length l, List.mem_append] at h
        exact h.elim (fun q => .inl (.inl q)) .inr
      · exact .inl (.inr h)
theorem asc_ins {l : List Sn} {s : Sn} (h : AscS l) : AscS (insS l s) := by
  unfold insS
  split
  · exact h
  · rename_i hno
    have ht : ∀ t ∈ l.take (l.filter fun t => decide (ltS t s)).length, ltS t s := fun t ht => by
      rw [← low_take h] at ht
      simpa using (List.mem_filter.mp ht).2
    have hd : ∀ t ∈ l.drop (l.filter fun t => decide (ltS t s)).length, ltS s t := fun t hm => by
      rcases ltS_or s t with q | q | q
      · exact q
      · subst q; exact absurd (List.mem_of_mem_drop hm) hno
      · exact absurd q (high_drop h t hm)
    rw [List.append_assoc]
    refine List.pairwise_append.mpr ⟨h.sublist (List.take_sublist ..), ?_, fun a ha b hb => ?_⟩
    · rw [List.singleton_append]
      exact List.pairwise_cons.mpr ⟨hd, h.sublist (List.drop_sublist ..)⟩
    · rw [List.singleton_append] at hb
      rcases List.mem_cons.mp hb with e | e
      · subst e; exact ht a ha
      · exact ltS_tr (ht a ha) (hd b e)
theorem asc_sr : ∀ (l : List Sn) {acc : List Sn}, AscS acc → AscS (srF acc l)
  | [], _, h => h
  | _ :: l, _, h => asc_sr l (asc_ins h)
theorem mem_sr {t : Sn} : ∀ (l : List Sn) {acc : List Sn}, t ∈ srF acc l ↔ t ∈ acc ∨ t ∈ l
  | [], acc => by simp [srF]
  | s :: l, acc => by
    show t ∈ srF (insS acc s) l ↔ _
    rw [mem_sr l, mem_ins, List.mem_cons]
    constructor
    · rintro ((h | h) | h)
      · exact .inl h
      · exact .inr (.inl h)
      · exact .inr (.inr h)
    · rintro (h | h | h)
      · exact .inl (.inl h)
      · exact .inl (.inr h)
      · exact .inr h
theorem asc_nodup {l : List Sn} (h : AscS l) : l.Nodup := h.imp fun {a b} q e => by subst e; exact ltS_irr _ q
theorem asc_uniq {a b : List Sn} (ha : AscS a) (hb : AscS b) (h : ∀ t, t ∈ a ↔ t ∈ b) : a = b :=
  List.Perm.eq_of_pairwise (fun x y _ _ q1 q2 => absurd (ltS_tr q1 q2) (ltS_irr _)) ha hb ((List.perm_ext_iff_of_nodup (asc_nodup ha) (asc_nodup hb)).mpr h)
theorem srS_of {l t : List Sn} (ht : AscS t) (h : ∀ s, s ∈ t ↔ s ∈ l) : t = srS l :=
  asc_uniq ht (asc_sr l List.Pairwise.nil) fun s => by rw [h s, srS, mem_sr]; simp
def unS (acc : List Sn) : List Sn → List Sn
  | [] => acc
  | x :: xs => unS (if x ∈ acc then acc else acc ++ [x]) xs
theorem mem_un {t : Sn} : ∀ (l : List Sn) {acc : List Sn}, t ∈ unS acc l ↔ t ∈ acc ∨ t ∈ l
  | [], acc => by simp [unS]
  | s :: l, acc => by
    rw [unS, mem_un l, List.mem_cons]
    by_cases h : s ∈ acc
    · rw [if_pos h]
      exact ⟨fun q => q.elim .inl fun q => .inr (.inr q), fun q => q.elim .inl fun q => q.elim (fun e => .inl (e ▸ h)) .inr⟩
    · rw [if_neg h, List.mem_append, List.mem_singleton]
      exact ⟨fun q => q.elim (fun q => q.elim .inl fun q => .inr (.inl q)) fun q => .inr (.inr q), fun q => q.elim (fun q => .inl (.inl q)) fun q => q.elim (fun q => .inl (.inr q)) .inr⟩
theorem nodup_un : ∀ (l : List Sn) {acc : List Sn}, acc.Nodup → (unS acc l).Nodup
  | [], _, h => h
  | s :: l, acc, h => by
    rw [unS]
    refine nodup_un l ?_
    split
    · exact h
    · rename_i hno
      rw [List.nodup_append]
      exact ⟨h, by simp, fun a ha b hb => by rw [List.mem_singleton] at hb; subst hb; exact fun e => hno (e ▸ ha)⟩
theorem len_un : ∀ (l : List Sn) {acc : List Sn}, (unS acc l).length ≤ acc.length + l.length
  | [], _ => by simp [unS]
  | s :: l, acc => by
    rw [unS]
    refine Nat.le_trans (len_un l) ?_
    split <;> simp <;> omega
theorem len_ins (l : List Sn) (s : Sn) : (insS l s).length ≤ l.length + 1 := by
  unfold insS
  split
  · omega
  · simp only [List.length_append, List.length_take, List.length_drop, List.length_singleton]; omega
theorem len_srF : ∀ (l : List Sn) {acc : List Sn}, (srF acc l).length ≤ acc.length + l.length
  | [], _ => by simp [srF]
  | s :: l, acc => by
    show (srF (insS acc s) l).length ≤ _
    refine Nat.le_trans (len_srF l) ?_
    have := len_ins acc s
    simp only [List.length_cons]; omega
end K05

namespace K05
open PySem L2 Dl K06
local macro_rules | `(tactic| walk_at "ds") => `(tactic| repeat' with_reducible first
  | fail "stuck")
theorem str_s : PyData.strOk ("tick" : Str) = true ∧ PyData.strOk ("more" : Str) = true ∧ PyData.strOk ("end" : Str) = true := by decide +kernel
theorem num_s (w : Bool) : PyData.strOk (numS w) = true := by cases w <;> decide +kernel
theorem sid_s (r : Bool) : PyData.strOk (sidS r) = true := by cases r <;> decide +kernel
theorem isK_sn : ∀ s : Sn, isK (snD s) = true
  | .tick => str_s.1
  | .more => str_s.2.1
  | .fin => str_s.2.2
  | .num w n => by simp only [snD, isK, isKs, num_s, Bool.and_true]
  | .side r s => by simp only [snD, isK, isKs, sid_s, isK_sn s, Bool.and_true]
theorem dep_sn : ∀ s : Sn, depD (snD s) ≤ sds s + 1
  | .tick => by simp [snD, depD]
  | .more => by simp [snD, depD]
  | .fin => by simp [snD, depD]
  | .num w n => by simp [snD, depD, depDs]
  | .side r s => by have := dep_sn s; simp only [snD, depD, depDs, sds]; omega
theorem nkd_sn : ∀ s : Sn, (nk (snD s)).depth ≤ sds s + 1
  | .tick => by simp [snD, nk, PySem.NestedKey.depth]
  | .more => by simp [snD, nk, PySem.NestedKey.depth]
  | .fin => by simp [snD, nk, PySem.NestedKey.depth]
  | .num w n => by simp [snD, nk, nks, PySem.NestedKey.depth, PySem.NestedKey.depthAll]
  | .side r s => by have := nkd_sn s; simp only [snD, nk, nks, PySem.NestedKey.depth, PySem.NestedKey.depthAll, sds]; omega
theorem key_sn {s : Sn} (h : sds s ≤ 7) : keyOk (snD s) := ⟨isK_sn s, by have := nkd_sn s; omega⟩
theorem numS_inj {w v : Bool} (h : numS w = numS v) : w = v := by
  have : ("way" : Str) ≠ "many" := by decide +kernel
  cases w <;> cases v
  · rfl
  · exact absurd h.symm this
  · exact absurd h this
  · rfl
theorem sidS_inj {w v : Bool} (h : sidS w = sidS v) : w = v := by
  have : ("right" : Str) ≠ "left" := by decide +kernel
  cases w <;> cases v
  · rfl
  · exact absurd h.symm this
  · exact absurd h this
  · rfl
theorem num_sid (w v : Bool) : numS w ≠ sidS v := by cases w <;> cases v <;> decide +kernel
theorem str_ne : ("tick" : Str) ≠ "more" ∧ ("tick" : Str) ≠ "end" ∧ ("more" : Str) ≠ "end" := by decide +kernel
theorem sn_inj : ∀ s t : Sn, snD s = snD t → s = t
  | .tick, t, h => by
    cases t with
    | tick => rfl
    | more => simp only [snD, D.str.injEq] at h; exact absurd h str_ne.1
    | fin => simp only [snD, D.str.injEq] at h; exact absurd h str_ne.2.1
    | num _ _ => simp [snD] at h
    | side _ _ => simp [snD] at h
  | .more, t, h => by
    cases t with
    | tick => simp only [snD, D.str.injEq] at h; exact absurd h.symm str_ne.1
    | more => rfl
    | fin => simp only [snD, D.str.injEq] at h; exact absurd h str_ne.2.2
    | num _ _ => simp [snD] at h
    | side _ _ => simp [snD] at h
  | .fin, t, h => by
    cases t with
    | tick => simp only [snD, D.str.injEq] at h; exact absurd h.symm str_ne.2.1
    | more => simp only [snD, D.str.injEq] at h; exact absurd h.symm str_ne.2.2
    | fin => rfl
    | num _ _ => simp [snD] at h
    | side _ _ => simp [snD] at h
  | .num w n, t, h => by
    cases t with
    | num v m =>
      simp only [snD, D.tup.injEq, List.cons.injEq, D.str.injEq, D.int.injEq, and_true] at h
      have h1 := numS_inj h.1
      have h2 : n = m := by omega
      rw [h1, h2]
    | side v s =>
      simp only [snD, D.tup.injEq, List.cons.injEq, D.str.injEq] at h
      exact absurd h.1 (num_sid w v)
    | _ => simp [snD] at h
  | .side r s, t, h => by
    cases t with
    | side v u =>
      simp only [snD, D.tup.injEq, List.cons.injEq, D.str.injEq, and_true] at h
      rw [sidS_inj h.1, sn_inj s u h.2]
    | num v n =>
      simp only [snD, D.tup.injEq, List.cons.injEq, D.str.injEq] at h
      exact absurd h.1.symm (num_sid v r)
    | _ => simp [snD] at h
theorem nk_sn {s t : Sn} : nk (snD s) = nk (snD t) ↔ s = t := ⟨fun h => sn_inj s t (nk_inj _ _ (isK_sn s) (isK_sn t) h), fun h => by rw [h]⟩
theorem mem_nk {s : Sn} {l : List Sn} : nk (snD s) ∈ (l.map snD).map nk ↔ s ∈ l := by
  rw [List.map_map, List.mem_map]
  exact ⟨fun ⟨t, h1, h2⟩ => by have h2 := nk_sn.mp h2; exact h2 ▸ h1, fun h => ⟨s, h, rfl⟩⟩
theorem uniq_sn : ∀ (l acc : List Sn), uniqG (acc.map snD) (l.map snD) = (unS acc l).map snD
  | [], acc => rfl
  | s :: l, acc => by
    rw [List.map_cons, uniqG, unS]
    by_cases h : s ∈ acc
    · rw [if_pos h, if_pos (mem_nk.mpr h)]; exact uniq_sn l acc
    · rw [if_neg h, if_neg (fun q => h (mem_nk.mp q)), ← uniq_sn l (acc ++ [s])]
      congr 1
      simp
theorem eqvD_refl : ∀ s : Sn, eqvD (snD s) (snD s) = true
  | .tick => by simp [snD, eqvD]
  | .more => by simp [snD, eqvD]
  | .fin => by simp [snD, eqvD]
  | .num w n => by simp [snD, eqvD, eqvDs]
  | .side r s => by simp [snD, eqvD, eqvDs, eqvD_refl s]
theorem ns_ne {w v : Bool} {x y : D} (h : eqvD (.tup [.str (numS w), x]) (.tup [.str (sidS v), y]) = true) : False := by
  simp only [eqvD, eqvDs, Bool.and_eq_true, beq_iff_eq, and_true] at h
  exact num_sid w v h.1
theorem sn_ne {w v : Bool} {x y : D} (h : eqvD (.tup [.str (sidS v), x]) (.tup [.str (numS w), y]) = true) : False := by
  simp only [eqvD, eqvDs, Bool.and_eq_true, beq_iff_eq, and_true] at h
  exact num_sid w v h.1.symm
theorem ss_eq {w v : Bool} {x y : D} (h : eqvD (.tup [.str (sidS v), x]) (.tup [.str (sidS w), y]) = true) : v = w ∧ eqvD x y = true := by
  simp only [eqvD, eqvDs, Bool.and_eq_true, beq_iff_eq, and_true] at h
  exact ⟨sidS_inj h.1, h.2⟩
theorem eqv_eq : ∀ s t : Sn, eqvD (snD s) (snD t) = true → s = t
  | .tick, t, h => by
    cases t <;> simp only [snD, eqvD, beq_iff_eq] at h
    · rfl
    · exact absurd h str_ne.1
    · exact absurd h str_ne.2.1
    · cases h
    · cases h
  | .more, t, h => by
    cases t <;> simp only [snD, eqvD, beq_iff_eq] at h
    · exact absurd h.symm str_ne.1
    · rfl
    · exact absurd h str_ne.2.2
    · cases h
    · cases h
  | .fin, t, h => by
    cases t <;> simp only [snD, eqvD, beq_iff_eq] at h
    · exact absurd h.symm str_ne.2.1
    · exact absurd h.symm str_ne.2.2
    · rfl
    · cases h
    · cases h
  | .num w n, t, h => by
    cases t with
    | num v m =>
      simp only [snD, eqvD, eqvDs, Bool.and_eq_true, beq_iff_eq, and_true] at h
      have h2 : n = m := by omega
      rw [numS_inj h.1, h2]
    | side v s => exact (ns_ne h).elim
    | _ => simp [snD, eqvD] at h
  | .side r s, t, h => by
    cases t with
    | side v u =>
      obtain ⟨h1, h2⟩ := ss_eq h
      rw [h1, eqv_eq s u h2]
    | num v n => exact (sn_ne h).elim
    | _ => simp [snD, eqvD] at h
theorem eqv_sn (s t : Sn) : eqvD (snD s) (snD t) = decide (s = t) := by
  by_cases h : s = t
  · subst h; rw [eqvD_refl]; simp
  · rw [decide_eq_false h]
    cases q : eqvD (snD s) (snD t) with
    | false => rfl
    | true => exact absurd (eqv_eq s t q) h
theorem in_sn {s : Sn} {l : List Sn} : inD (snD s) (l.map snD) = decide (s ∈ l) := by
  unfold inD
  rw [List.any_map]
  induction l with
  | nil => simp
  | cons t l ih =>
    rw [List.any_cons, ih]
    simp only [Function.comp_apply, eqv_sn, List.mem_cons]
    by_cases h : t = s
    · subst h; simp
    · rw [decide_eq_false h, Bool.false_or]
      simp only [decide_eq_decide]
      exact ⟨.inr, fun q => q.elim (fun e => absurd e.symm h) id⟩
theorem ok_sn {s : Sn} (h : sds s ≤ 60) : okD (snD s) := ⟨nk_pure _ (isK_sn s), by have := dep_sn s; omega⟩
end K05

namespace K05
open PySem L2 Dl K06
local macro_rules | `(tactic| walk_at "ds") => `(tactic| repeat' with_reducible first
  | refine iVar (by with_unfolding_all rfl) ?_
  | refine iCons ?_
  | refine iNil ?_
  | refine iOp ?_
  | refine iSeq ?_
  | refine iAsg ?_
  | refine iGNm ?_
  | refine iTup ?_
  | refine iFrz ?_
  | refine iTst ?_
  | refine iIfS ?_
  | refine iRet ?_
  | refine iCall ?_
  | refine iNext ?_
  | refine lenOk (by with_unfolding_all rfl) ?_
  | refine frzEnd ?_
  | refine iCB ?_
  | refine iFor ?_
  | refine iISq ?_
  | refine rIx_i (by with_unfolding_all rfl) (by with_unfolding_all rfl) ?_
  | refine rIx_i (by with_unfolding_all rfl) atI_0 ?_
  | refine int0 ?_
  | refine len_t ?_
  | refine tupC_l ?_
  | refine min2_ii ?_
  | refine iIRg1 ?_
  | refine ifNT ?_
  | refine ifNF ?_
  | fail "stuck")
theorem ok_rank (s : Sn) : pureD (rkD s) = true ∧ depD (rkD s) ≤ 1 := by
  refine ⟨?_, ?_⟩
  · simp only [rkD, pureD, pureDs_in]
  · simp only [rkD, depD, depDs_in]; omega
def prS (s : Sn) : D := .tup [rkD s, snD s]
theorem cmp_refl : ∀ s : Sn, cmpb (pyD (snD s)) (pyD (snD s)) = true
  | .tick => rfl
  | .more => rfl
  | .fin => rfl
  | .num w n => by simp [snD, pyD, pyDs, cmpb, cmpbs]
  | .side r s => by simp [snD, pyD, pyDs, cmpb, cmpbs, cmp_refl s]
theorem cmp_pr (s t : Sn) : cmpb (pyD (prS s)) (pyD (prS t)) = true := by
  simp only [prS, pyD, pyDs, cmpb, py_rk, cmpbs, cmp_tupI, eqv_tupI, Bool.true_and, Bool.and_true]
  by_cases h : rk s = rk t
  · rw [rk_inj _ _ h, cmp_refl]; simp
  · rw [decide_eq_false h]; rfl
theorem dlt_pr {s t : Sn} (h : s ≠ t) : dlt (prS s) (prS t) = lexI (rk s) (rk t) := by
  have hc := cmp_pr s t
  unfold dlt
  simp only [prS, pyD, pyDs, cmpb, py_rk, PySem.W.keyToks] at hc ⊢
  obtain ⟨c1, c2⟩ := cmpbs_cons hc
  rw [tlt_no c1 (by rw [eqv_tupI]; exact decide_eq_false fun e => h (rk_inj _ _ e))]
  exact lt_tupI _ _
theorem srtT_pr {l : List Sn} (h : ∀ s ∈ l, sds s ≤ 7) : SrtT (l.map prS) := by
  refine ⟨?_, ?_, ?_⟩
  · rw [pureDs_iff]
    intro d hd
    obtain ⟨s, hs, rfl⟩ := List.mem_map.mp hd
    simp only [prS, pureD, pureDs, (ok_rank s).1, nk_pure _ (isK_sn s), Bool.and_true]
  · intro d hd
    obtain ⟨s, hs, rfl⟩ := List.mem_map.mp hd
    have h1 := (ok_rank s).2
    have h2 := dep_sn s
    have h3 := h s hs
    refine ⟨?_, inD' (rk s), [snD s], rfl⟩
    simp only [prS, depD, depDs]
    omega
  · intro d hd d' hd'
    obtain ⟨s, hs, rfl⟩ := List.mem_map.mp hd
    obtain ⟨t, ht, rfl⟩ := List.mem_map.mp hd'
    exact cmp_pr s t
theorem asc_pr {t : List Sn} (hn : t.Nodup) (h : Asc (t.map prS)) : AscS t := by
  have h1 := List.pairwise_map.mp h
  refine List.Pairwise.imp_of_mem (fun {a b} ha hb q => ?_) (hn.and h1)
  have ne := q.1
  have q2 := q.2
  rw [dlt_pr (fun e => ne e.symm)] at q2
  rcases ltS_or a b with z | z | z
  · exact z
  · exact absurd z ne
  · exact absurd z (by unfold ltS; rw [q2]; exact Bool.false_ne_true)
theorem perm_map_inv {α β : Type} (f : α → β) {l1 l2 : List β} (p : List.Perm l1 l2) : ∀ {xs : List α}, xs.map f = l2 → ∃ ys, ys.map f = l1 ∧ List.Perm ys xs := by
  induction p with
  | nil => intro xs h; exact ⟨xs, h, .refl _⟩
  | cons a p ih =>
    intro xs h
    cases xs with
    | nil => cases h
    | cons x xs =>
      rw [List.map_cons, List.cons.injEq] at h
      obtain ⟨rfl, h⟩ := h
      obtain ⟨ys, e, q⟩ := ih h
      exact ⟨x :: ys, by rw [List.map_cons, e], q.cons x⟩
  | swap a b l =>
    intro xs h
    cases xs with
    | nil => cases h
    | cons x xs =>
      cases xs with
      | nil => cases h
      | cons y xs =>
        rw [List.map_cons, List.map_cons, List.cons.injEq, List.cons.injEq] at h
        obtain ⟨rfl, rfl, rfl⟩ := h
        exact ⟨y :: x :: xs, rfl, List.Perm.swap ..⟩
  | trans p q ih1 ih2 =>
    intro xs h
    obtain ⟨ys, e, q1⟩ := ih2 h
    obtain ⟨zs, e2, q2⟩ := ih1 e
    exact ⟨zs, e2, q2.trans q1⟩
def RIo : List D → D → Prop := fun ds d => ∃ l : List Sn, ds = [.lst (l.map snD)] ∧ l.Nodup ∧ RowOkS l ∧ d = .tup ((srS l).map snD)
theorem in_sign_order_rd : ∀ ds G Q E, pSp RIo ds G Q E → r_in_sign_order (pSp RRk) { nx := fun _ G' => Q .non G', rt := Q } (startD 4 ds) G := by
  rintro ds G Q E ⟨_, ⟨l, rfl, hn, hl, rfl⟩, hq⟩
  unfold r_in_sign_order
  have hz : (3000 : Nat) ≤ sizeLine := by decide
  have ll := hl.ln
  walk_at "ds"
  refine lcF l snD prS ?_ (by omega) ?_ ?_
  · intro P hP
    walk_at "ds"
    exact hP _ _ (fun _ => trivial) (Grow.refl _)
  · intro s hs
    refine ⟨_, rfl, fun G1 K hK => ?_⟩
    walk_at "ds"
    have := hl.sd s hs
    refine ⟨_, ⟨s, rfl, by omega, rfl⟩, fun G2 g2 => ?_⟩
    walk_at "ds"
    exact hK _ g2
  intro G2 g2
  walk_at "ds"
  refine sortT_i (srtT_pr hl.sd) fun es p pe ha hp => frzEnd ?_ p hp
  obtain ⟨t, rfl, pt⟩ := perm_map_inv prS pe rfl
  have nt : t.Nodup := pt.nodup_iff.mpr hn
  have et := srS_of (asc_pr nt ha) fun s => pt.mem_iff
  have lt : t.length = l.length := pt.length_eq
  walk_at "ds"
  refine lcF t prS snD ?_ (by omega) ?_ ?_
  · intro P hP
    walk_at "ds"
    exact hP _ _ (fun _ => trivial) (Grow.refl _)
  · intro s hs
    refine ⟨_, rfl, fun G1 K hK => ?_⟩
    walk_at "ds"
    exact hK _ (Grow.refl _)
  intro G3 g3
  walk_at "ds"
  rw [et]
  exact hq _ (g2.trans g3)
end K05

namespace K05
open PySem L2 Dl K06
local macro_rules | `(tactic| walk_at "ds") => `(tactic| repeat' with_reducible first
  | refine iVar (by with_unfolding_all rfl) ?_
  | refine iCons ?_
  | refine iNil ?_
  | refine iC ?_
  | refine iOp ?_
  | refine iSeq ?_
  | refine iAsg ?_
  | refine iGNm ?_
  | refine iFrz ?_
  | refine iTst ?_
  | refine iIfS ?_
  | refine iRet ?_
  | refine iCall ?_
  | refine iLst ?_
  | refine iNext ?_
  | refine iXPa ?_
  | refine iXPs ?_
  | refine iXSeq ?_
  | refine iXDrop ?_
  | refine iXCall ?_
  | refine iNeg ?_
  | refine lstP_i (by assumption) ?_
  | refine lstP_i updG_same ?_
  | refine iDrop ?_
  | refine lenOk (by with_unfolding_all rfl) ?_
  | refine frzEnd ?_
  | refine iCB ?_
  | refine iMt ?_
  | refine iFor ?_
  | refine iISq ?_
  | refine len_l ?_
  | refine ifNT ?_
  | refine ifNF ?_
  | fail "stuck")
def RSo : List D → Except DX D → Prop := fun ds o => (∃ l : List Sn, ds = [.tup (l.map snD)] ∧ RowOkS l ∧ o = .ok (.tup ((srS l).map snD))) ∨ (∃ x, ds = [x] ∧ BadRow x ∧ o = .error (K03.nuA "signs" (-1)))
theorem row_un {l : List Sn} (h : RowOkS l) : RowOkS (unS [] l) := ⟨fun s hs => h.sd s (by rw [mem_un] at hs; simpa using hs), by have := len_un l (acc := []); have := h.ln; simp at *; omega⟩
theorem srS_un (l : List Sn) : srS (unS [] l) = srS l := srS_of (asc_sr _ List.Pairwise.nil) fun s => by rw [srS, mem_sr, mem_un]; simp
theorem sorted_signs_rd : ∀ ds G Q E, pSpX RSo ds G Q E → r_sorted_signs (pSp RIo) (pSp K18.RSs) (pSpX K03.RUx) (fun x _ G' => E x G') { nx := fun _ G' => Q .non G', rt := Q } (startD 2 ds) G := by
  rintro ds G Q E ⟨o, hr, hq⟩
  unfold r_sorted_signs
  have hz : (3000 : Nat) ≤ sizeLine := by decide
  rcases hr with ⟨l, rfl, hl, rfl⟩ | ⟨x, rfl, hb, rfl⟩
  · obtain ⟨a1, a2⟩ := row_sgs hl
    have ll := hl.ln
    walk_at "ds"
    refine ⟨_, ⟨_, rfl, a1, a2, rfl⟩, fun G1 g1 => ?_⟩
    rw [isSgs_sn]
    walk_at "ds"
    refine ⟨_, ⟨true, "signs", -1, rfl, rfl⟩, fun G2 g2 => ?_⟩
    dsimp only [K03.ruO]
    walk_at "ds"
    refine iUniq (by show 1 < 2; omega) ?_
    walk_at "ds"
    refine ⟨fun _ _ _ => trivial, ?_, by rw [List.length_map]; omega, fun p hp => frzEnd ?_ p hp⟩
    · intro x hx
      obtain ⟨s, hs, rfl⟩ := List.mem_map.mp hx
      exact key_sn (hl.sd s hs)
    rw [uniq, show uniqG [] (l.map snD) = (unS [] l).map snD from uniq_sn l []]
    walk_at "ds"
    refine ⟨_, ⟨unS [] l, rfl, nodup_un l List.nodup_nil, row_un hl, rfl⟩, fun G3 g3 => ?_⟩
    rw [srS_un]
    exact hq _ ((g1.trans g2).trans g3)
  · walk_at "ds"
    refine ⟨_, ⟨_, rfl, hb.c, hb.l, rfl⟩, fun G1 g1 => ?_⟩
    rw [hb.n]
    walk_at "ds"
    refine ⟨_, ⟨false, "signs", -1, rfl, rfl⟩, fun G2 g2 => ?_⟩
    dsimp only [K03.ruO]
    exact hq _ (g1.trans g2)
def RLS : List D → D → Prop := fun ds d => ∃ l : List Sn, ds = [.tup (l.map snD)] ∧ RowOkS l ∧ d = .tup ((srS l).map snD)
theorem ok_row {l : List Sn} (h : ∀ s ∈ l, sds s ≤ 7) : pureDs (l.map snD) = true ∧ depDs (l.map snD) ≤ 8 := by
  induction l with
  | nil => exact ⟨rfl, by simp [depDs]⟩
  | cons s l ih =>
    have i := ih fun t ht => h t (List.mem_cons_of_mem _ ht)
    have h1 := h s (List.mem_cons_self ..)
    have h2 := dep_sn s
    refine ⟨?_, ?_⟩
    · simp only [List.map_cons, pureDs, nk_pure _ (isK_sn s), Bool.true_and]; exact i.1
    · simp only [List.map_cons, depDs]; omega
theorem okl_row {l : List Sn} (h : ∀ s ∈ l, sds s ≤ 7) : okD (.lst (l.map snD)) := ⟨by rw [pureD]; exact (ok_row h).1, by rw [depD]; have := (ok_row h).2; omega⟩
theorem okt_row {l : List Sn} (h : ∀ s ∈ l, sds s ≤ 7) : okD (.tup (l.map snD)) := ⟨by rw [pureD]; exact (ok_row h).1, by rw [depD]; have := (ok_row h).2; omega⟩
theorem vw_ref {p : Addr} {l : List D} {G : GH} (e : G p = some (.lst l)) : vw G (.ref p) = .lst l := by unfold vw; dsimp only; rw [e]
end K05

namespace K05
open PySem L2 Dl K06
local macro_rules | `(tactic| walk_at "ds") => `(tactic| repeat' with_reducible first
  | refine iVar (by with_unfolding_all rfl) ?_
  | refine iCons ?_
  | refine iNil ?_
  | refine iC ?_
  | refine iOp ?_
  | refine iSeq ?_
  | refine iAsg ?_
  | refine iGNm ?_
  | refine iTup ?_
  | refine iFrz ?_
  | refine iTst ?_
  | refine iIfS ?_
  | refine iRet ?_
  | refine iCall ?_
  | refine iLst ?_
  | refine iNext ?_
  | refine iXPa ?_
  | refine iXCall ?_
  | refine iNeg ?_
  | refine lstP_i (by assumption) ?_
  | refine lstP_i updG_same ?_
  | refine iDrop ?_
  | refine lenOk (by with_unfolding_all rfl) ?_
  | refine frzEnd ?_
  | refine ifF ?_
  | refine iCB ?_
  | refine iMt ?_
  | refine iFor ?_
  | refine iISq ?_
  | refine ne_strT ?_
  | refine ifNT ?_
  | fail "stuck")
structure RwQ (l : List Sn) : Prop where
  sm : ∀ s ∈ l, SmSg 3 s
  ln : l.length ≤ 13
theorem RwQ.ok {l : List Sn} (h : RwQ l) : RowOkS l := ⟨fun s hs => by have := (h.sm s hs).sd; omega, by have := h.ln; omega⟩
theorem good_q {l : List Sn} (h : RwQ l) : GoodRow l := by
  refine ⟨fun s hs => ⟨(h.sm s hs).ok, by have := (h.sm s hs).sd; omega⟩, ?_⟩
  have key : ∀ l : List Sn, (∀ s ∈ l, SmSg 3 s) → (cods l).length ≤ l.length * 8 := by
    intro l
    induction l with
    | nil => intro _; simp [cods]
    | cons s l ih =>
      intro h
      have := ih fun t ht => h t (List.mem_cons_of_mem _ ht)
      have := (h s (List.mem_cons_self ..)).ln
      rw [cods_cons, List.length_append, List.length_cons]; omega
  have := key l h.sm
  have := h.ln
  omega
theorem rowsq_shw {R : List (List Sn)} (h : ∀ l ∈ R, RwQ l) (hl : R.length ≤ 18) : Shw (.lst (R.map rowD)) := by
  have e : (2 : Nat) ^ 14 = 16384 := by decide
  refine shw_big rfl ?_ ?_ ?_
  · rw [mgD, mgDs_iff]
    intro d hd
    obtain ⟨l, hl, rfl⟩ := List.mem_map.mp hd
    unfold rowD
    rw [mgD]
    exact (row_ok (good_q (h l hl))).mg
  · rw [depD]
    have : depDs (R.map rowD) ≤ 31 := depDs_le (by
      intro d hd
      obtain ⟨l, hl, rfl⟩ := List.mem_map.mp hd
      unfold rowD
      rw [depD]
      have := (row_ok (good_q (h l hl))).dp
      omega)
    omega
  · rw [wgD]
    have := wgDs_le (ds := R.map rowD) (n := 800) (by
      intro d hd
      obtain ⟨l, hl, rfl⟩ := List.mem_map.mp hd
      have h1 := h l hl
      unfold rowD
      rw [wgD]
      have := wgDs_le (ds := l.map snD) (n := 56) (by intro d hd; obtain ⟨s, hs, rfl⟩ := List.mem_map.mp hd; have := (h1.sm s hs).wt; omega)
      rw [List.length_map] at this
      have : l.length * (56 + 1) ≤ 13 * 57 := Nat.mul_le_mul h1.ln (Nat.le_refl _)
      omega)
    rw [List.length_map] at this
    have : R.length * (800 + 1) ≤ 18 * 801 := Nat.mul_le_mul hl (Nat.le_refl _)
    omega
def RAc : List D → D → Prop := fun ds d => ∃ a b : List Sn, ds = [.tup (a.map snD), .tup (b.map snD)] ∧ RowOkS a ∧ RowOkS b ∧ d = .bl (erl a b)
theorem is_ahead_calm : ∀ ds G Q E, pSp RAc ds G Q E → pSpX RAh ds G Q noX := by
  rintro ds G Q E ⟨_, ⟨a, b, rfl, ha, hb, rfl⟩, hq⟩
  exact pSpX_ok (d := .bl (erl a b)) (.inl ⟨a, b, rfl, ha, hb, rfl⟩) fun G1 g1 => hq G1 g1
theorem sorted_signs_calm : ∀ ds G Q E, pSp RLS ds G Q E → pSpX RSo ds G Q noX := by
  rintro ds G Q E ⟨_, ⟨l, rfl, hl, rfl⟩, hq⟩
  exact pSpX_ok (d := .tup ((srS l).map snD)) (.inl ⟨l, rfl, hl, rfl⟩) fun G1 g1 => hq G1 g1
end K05

namespace K05
open PySem L2 Dl K06
local macro_rules | `(tactic| walk_at "ds") => `(tactic| repeat' with_reducible first
  | refine iVar (by with_unfolding_all rfl) ?_
  | refine iCons ?_
  | refine iNil ?_
  | refine iC ?_
  | refine iOp ?_
  | refine iSeq ?_
  | refine iAsg ?_
  | refine iGNm ?_
  | refine iTup ?_
  | refine iFrz ?_
  | refine iTst ?_
  | refine iIfS ?_
  | refine iRet ?_
  | refine iCall ?_
  | refine iLst ?_
  | refine iNext ?_
  | refine lstP_i (by assumption) ?_
  | refine lstP_i updG_same ?_
  | refine iCallG ?_
  | refine iDrop ?_
  | refine iPar ?_
  | refine lenOk (by with_unfolding_all rfl) ?_
  | refine frzEnd ?_
  | refine slT ?_
  | refine iTru ?_
  | refine truB ?_
  | refine iOr ?_
  | refine iNot ?_
  | refine iAndVK ?_
  | refine andVT ?_
  | refine iNotV ?_
  | refine ifF ?_
  | refine iCB ?_
  | refine iMt ?_
  | refine iSl ?_
  | refine iP ?_
  | refine iNoP ?_
  | refine iFor ?_
  | refine ne_strT ?_
  | refine add_ii ?_
  | refine len_t ?_
  | refine tupC_l ?_
  | refine iIRg1 ?_
  | refine add_ttb (by with_unfolding_all rfl) ?_
  | refine ifNT ?_
  | refine ifNF ?_
  | fail "stuck")
theorem cut_sn (l : List Sn) (lo hi : Option Int) : ∃ l' : List Sn, cutD (l.map snD) lo hi = l'.map snD ∧ (∀ s ∈ l', s ∈ l) ∧ l'.length ≤ l.length := by
  unfold cutD
  rw [List.length_map, ← List.map_drop, ← List.map_take]
  refine ⟨_, rfl, fun s hs => List.mem_of_mem_drop (List.mem_of_mem_take hs), ?_⟩
  rw [List.length_take, List.length_drop]; omega
theorem ext_as {a : Addr} {l l' m : List D} {d : D} {G : GH} {Q : DK} (e : G a = some (.lst l)) (e2 : sqOf G d = some m) (z : l.length + m.length ≤ sizeLine) (el : l ++ m = l') (h : Q .non (updG G a (.lst l'))) : mExtend (.ref a) [d] G Q := by
  subst el; exact ext_i e e2 z h
theorem tb_keep {T a : Addr} {q : Str} {G G' : GH} (h : G T = some (.tab q)) (f : K03.FeedOk G a) (k : K03.KeepX a G G') : G' T = some (.tab q) := by
  obtain ⟨_, _, _, _, e⟩ := f
  refine k _ _ ?_ h
  rintro rfl; rw [h] at e; cases e
theorem tb_upd {T p : Addr} {q : Str} {G : GH} {l : List D} {o : DO} (h : G T = some (.tab q)) (e : G p = some (.lst l)) : (updG G p o) T = some (.tab q) := by
  rw [updG_ne]; · exact h
  · rintro rfl; rw [h] at e; cases e
end K05

namespace K13
open PySem L2 Dl K06 K05
local macro_rules | `(tactic| walk_at "ds") => `(tactic| repeat' with_reducible first
  | refine iVar (by with_unfolding_all rfl) ?_
  | refine iCons ?_
  | refine iNil ?_
  | refine iC ?_
  | refine iGNm ?_
  | refine iRet ?_
  | refine iCall ?_
  | refine iNext ?_
  | refine iXPa ?_
  | refine iXPt ?_
  | refine iXPs ?_
  | refine iXSeq ?_
  | refine iXDrop ?_
  | refine iXIfS ?_
  | refine iXCall ?_
  | refine iNeg ?_
  | refine iGTp (by with_unfolding_all rfl) ?_
  | refine iGsCons ?_
  | refine iGsNil ?_
  | refine iTru ?_
  | refine truB ?_
  | refine iNot ?_
  | refine iCB ?_
  | refine iIsi ?_
  | refine len_t ?_
  | refine iIEnT ?_
  | refine isi_T (by with_unfolding_all rfl) (by decide +kernel) ?_
  | refine ifNT ?_
  | fail "stuck")
theorem erl_iff (a b : List Sn) : a = b ∨ erl a b = true ∨ erl b a = true := by
  induction a generalizing b with
  | nil => cases b with
    | nil => exact .inl rfl
    | cons y b => exact .inr (.inl rfl)
  | cons x a ih =>
    cases b with
    | nil => exact .inr (.inr rfl)
    | cons y b =>
      rw [erl, erl]
      by_cases h : x = y
      · subst h
        rw [if_pos rfl, if_pos rfl]
        rcases ih b with e | e | e
        · exact .inl (by rw [e])
        · exact .inr (.inl e)
        · exact .inr (.inr e)
      · rw [if_neg (fun e => h (rk_inj _ _ e)), if_neg (fun e => h (rk_inj _ _ e).symm)]
        rcases ltS_or x y with q | q | q
        · exact .inr (.inl q)
        · exact absurd q h
        · exact .inr (.inr q)
theorem erl_irr : ∀ a : List Sn, erl a a = false
  | [] => rfl
  | x :: a => by rw [erl, if_pos rfl, erl_irr a]
theorem erl_trans : ∀ a b c : List Sn, erl a b = true → erl b c = true → erl a c = true
  | [], [], _, h, _ => by simp [erl] at h
  | [], _ :: _, [], _, h => by simp [erl] at h
  | [], _ :: _, _ :: _, _, _ => rfl
  | _ :: _, [], _, h, _ => by simp [erl] at h
  | _ :: _, _ :: _, [], _, h => by simp [erl] at h
  | x :: a, y :: b, z :: c, h, h2 => by
    rw [erl] at h h2 ⊢
    by_cases e1 : rk x = rk y
    · rw [if_pos e1] at h
      by_cases e2 : rk y = rk z
      · rw [if_pos e2] at h2
        rw [if_pos (e1.trans e2)]
        exact erl_trans a b c h h2
      · rw [if_neg e2] at h2
        rw [e1, if_neg e2]; exact h2
    · rw [if_neg e1] at h
      by_cases e2 : rk y = rk z
      · rw [← e2, if_neg e1]; exact h
      · rw [if_neg e2] at h2
        have h3 := lexI_trans _ _ _ h h2
        rw [if_neg (fun e => by rw [e, lexI_irr] at h3; cases h3)]
        exact h3
theorem erl_asym {a b : List Sn} (h : erl a b = true) : erl b a = false := by
  cases e : erl b a with
  | false => rfl
  | true => have := erl_trans a b a h e; rw [erl_irr] at this; cases this
theorem erl_pre : ∀ (a c : List Sn), c ≠ [] → erl a (a ++ c) = true
  | [], c, h => by cases c with
    | nil => exact absurd rfl h
    | cons => rfl
  | x :: a, c, h => by rw [List.cons_append, erl, if_pos rfl]; exact erl_pre a c h
theorem lets_law_b {s t : Sn} (h : ltS s t) : erl [s] [t] = true := by
  rw [erl, if_neg (fun e => by rw [rk_inj _ _ e] at h; exact ltS_irr _ h)]
  exact h
structure RwT (l : List Sn) : Prop where
  sm : ∀ s ∈ l, SmSg 3 s
  ln : l.length ≤ 7
theorem RwT.q {l : List Sn} (h : RwT l) : RwQ l := ⟨h.sm, by have := h.ln; omega⟩
theorem RwT.ok {l : List Sn} (h : RwT l) : RowOkS l := h.q.ok
def RPp : List D → Except DX D → Prop := fun ds o => ∃ w k, ds = [.bl true, .str w, .int k] ∧ o = .ok .non
theorem require_paper_rd : ∀ ds G Q E, pSpX RPp ds G Q E → r_require_paper (fun x _ G' => E x G') { nx := fun _ G' => Q .non G', rt := Q } (startD 3 ds) G := by
  rintro ds G Q E ⟨o, ⟨w, k, rfl, rfl⟩, hq⟩
  unfold r_require_paper
  have e := hq G (Grow.refl G)
  walk_at "ds"
  exact e
def RLt : List D → Except DX D → Prop := fun ds o => ∃ l : List Sn, ds = [.tup (l.map snD)] ∧ l.length ≤ 1000 ∧ o = .ok (.int (l.length : Nat))
def RLtc : List D → D → Prop := fun ds d => ∃ l : List Sn, ds = [.tup (l.map snD)] ∧ l.length ≤ 1000 ∧ d = .int (l.length : Nat)
theorem lets_signs_calm : ∀ ds G Q E, pSp RLtc ds G Q E → pSpX RLt ds G Q noX := by
  rintro ds G Q E ⟨_, ⟨l, rfl, hl, rfl⟩, hq⟩
  exact pSpX_ok (d := .int (l.length : Nat)) ⟨l, rfl, hl, rfl⟩ fun G1 g1 => hq G1 g1
theorem lets_signs_rd : ∀ ds G Q E, pSpX RLt ds G Q E → r_lets_signs (pSp (K18.R1 K18.isSgB)) (pSpX RPp) (fun x _ G' => E x G') { nx := fun _ G' => Q .non G', rt := Q } (startD 3 ds) G := by
  rintro ds G Q E ⟨o, ⟨l, rfl, hl, rfl⟩, hq⟩
  unfold r_lets_signs
  have hz : (3000 : Nat) ≤ sizeLine := by decide
  walk_at "ds"
  refine ⟨_, ⟨"shape", -1, rfl, rfl⟩, fun G1 g1 => ?_⟩
  dsimp only
  walk_at "ds"
  refine K03.iXFor ?_
  walk_at "ds"
  dsimp only
  rw [enumD_map, List.length_map]
  refine K03.forN l.length _ (J := fun k ρ G' => ∃ x1 x2, ρ = [some (.tup (l.map snD)), x1, x2] ∧ Grow G G') ?_ ?_ _ _ ⟨none, none, rfl, g1⟩
  · rintro ρ G2 ⟨x1, x2, rfl, g2⟩
    walk_at "ds"
    rw [List.length_map]
    exact hq _ g2
  · rintro k hk ρ G2 ⟨x1, x2, rfl, g2⟩ K hK
    rw [show (l.map snD).getD k .non = snD l[k] from by rw [List.getD_eq_getElem?_getD, List.getElem?_map, List.getElem?_eq_getElem hk]; rfl]
    walk_at "ds"
    refine ⟨_, ⟨snD l[k], rfl, clean_sn l[k], rfl⟩, fun G3 g3 => ?_⟩
    rw [isSg_sn]
    walk_at "ds"
    refine ⟨_, ⟨"sign", _, rfl, rfl⟩, fun G4 g4 => ?_⟩
    dsimp only
    exact hK _ _ ⟨_, _, rfl, (g2.trans g3).trans g4⟩
def spSt : DSp := fun ds G Q _ => ∃ l : List Sn, ds = [.tup (l.map snD)] ∧ RwT l ∧ ∀ G', Grow G G' → Q (.bl true) G'
theorem mem_srS {s : Sn} {l : List Sn} : s ∈ srS l ↔ s ∈ l := by rw [srS, mem_sr]; simp
theorem ok_nil : okD (.lst []) := ⟨by simp [pureD, pureDs], by simp [depD, depDs]⟩
theorem ne_nil {G : GH} {Q : DK} (h : Q (.bl false) G) : rNev (.lst []) (.lst []) G Q := by
  refine ne_ll ok_nil ok_nil ?_
  rw [show eqvD (.lst []) (.lst []) = true from rfl]
  exact h
theorem eq_nil {G : GH} {Q : DK} (h : Q (.bl true) G) : rEqv (.lst []) (.lst []) G Q := by
  refine eq_ll ok_nil ok_nil ?_
  rw [show eqvD (.lst []) (.lst []) = true from rfl]
  exact h
theorem eqv_rows : ∀ a b : List Sn, eqvDs (a.map snD) (b.map snD) = decide (a = b)
  | [], [] => by simp [eqvDs]
  | [], _ :: _ => by simp [eqvDs]
  | _ :: _, [] => by simp [eqvDs]
  | x :: a, y :: b => by
    simp only [List.map_cons, eqvDs, eqv_sn, eqv_rows a b, List.cons.injEq]
    by_cases h : x = y
    · subst h; simp
    · simp [h]
theorem eqv_row (a b : List Sn) : eqvD (.tup (a.map snD)) (.tup (b.map snD)) = decide (a = b) := by rw [eqvD, eqv_rows]
theorem ne_row {a b : List Sn} {G : GH} {Q : DK} (ha : ∀ s ∈ a, sds s ≤ 7) (hb : ∀ s ∈ b, sds s ≤ 7) (h : Q (.bl (!decide (a = b))) G) : rNev (.tup (a.map snD)) (.tup (b.map snD)) G Q :=
  ne_tt (okt_row ha) (okt_row hb) (by rw [eqv_row]; exact h)
theorem eq_row {a b : List Sn} {G : GH} {Q : DK} (ha : ∀ s ∈ a, sds s ≤ 7) (hb : ∀ s ∈ b, sds s ≤ 7) (h : Q (.bl (decide (a = b))) G) : rEqv (.tup (a.map snD)) (.tup (b.map snD)) G Q :=
  eq_tt (okt_row ha) (okt_row hb) (by rw [eqv_row]; exact h)
theorem inT_row {f : Bool → Bool} {s : Sn} {b : List Sn} {G : GH} {Q : DK} (hs : sds s ≤ 7) (hb : ∀ s ∈ b, sds s ≤ 7) (h : Q (.bl (f (decide (s ∈ b)))) G) : rInT f (snD s) (.tup (b.map snD)) G Q :=
  ⟨ok_sn (by omega), okt_row hb, by rw [in_sn]; exact h⟩
theorem cut_two {l : List Sn} {i j : Nat} (hij : i ≤ j) (hj : j ≤ l.length) : cutD (l.map snD) (some (i : Nat)) (some (j : Nat)) = ((l.drop i).take (j - i)).map snD := by
  unfold cutD HT.sIx
  rw [List.length_map, List.map_take, List.map_drop]
  have e1 : (if ((i : Nat) : Int) < 0 then (((i : Nat) : Int) + (l.length : Nat)).toNat else min ((i : Nat) : Int).toNat l.length) = i := by rw [if_neg (by omega)]; omega
  have e2 : (if ((j : Nat) : Int) < 0 then (((j : Nat) : Int) + (l.length : Nat)).toNat else min ((j : Nat) : Int).toNat l.length) = j := by rw [if_neg (by omega)]; omega
  show ((l.map snD).drop (if ((i : Nat) : Int) < 0 then (((i : Nat) : Int) + (l.length : Nat)).toNat else min ((i : Nat) : Int).toNat l.length)).take ((if ((j : Nat) : Int) < 0 then (((j : Nat) : Int) + (l.length : Nat)).toNat else min ((j : Nat) : Int).toNat l.length) - (if ((i : Nat) : Int) < 0 then (((i : Nat) : Int) + (l.length : Nat)).toNat else min ((i : Nat) : Int).toNat l.length)) = _
  rw [e1, e2]
end K13

namespace K13
open PySem L2 Dl K06 K05
local macro_rules | `(tactic| walk_at "ds") => `(tactic| repeat' with_reducible first
  | refine iVar (by with_unfolding_all rfl) ?_
  | refine iCons ?_
  | refine iNil ?_
  | refine iC ?_
  | refine iOp ?_
  | refine iSeq ?_
  | refine iAsg ?_
  | refine iGNm ?_
  | refine iTup ?_
  | refine iFrz ?_
  | refine iTst ?_
  | refine iIfS ?_
  | refine iRet ?_
  | refine iCall ?_
  | refine iLst ?_
  | refine iNext ?_
  | refine iRev ?_
  | refine revT ?_
  | refine lenOk (by with_unfolding_all rfl) ?_
  | refine frzEnd ?_
  | refine slT ?_
  | refine iTru ?_
  | refine truB ?_
  | refine iOr ?_
  | refine iNot ?_
  | refine iAndVK ?_
  | refine andVT ?_
  | refine ifF ?_
  | refine iCB ?_
  | refine iSl ?_
  | refine iP ?_
  | refine iISq ?_
  | refine add_ii ?_
  | refine int0 ?_
  | refine len_t ?_
  | refine iIRg2 ?_
  | refine ifNT ?_
  | fail "stuck")
theorem sd_sub {l l' : List Sn} (h : ∀ s ∈ l, sds s ≤ 7) (hs : ∀ s ∈ l', s ∈ l) : ∀ s ∈ l', sds s ≤ 7 := fun s q => h s (hs s q)
theorem law_sorted_right_rd : ∀ ds G Q E, spSt ds G Q E → r_law_sorted_right (pSp RLS) (pSp RAc) { nx := fun _ G' => Q .non G', rt := Q } (startD 5 ds) G := by
  rintro ds G Q E ⟨l, rfl, hl, hq⟩
  unfold r_law_sorted_right
  have hz : (3000 : Nat) ≤ sizeLine := by decide
  have ll := hl.ln
  have h7 := hl.ok.sd
  have s7 : ∀ s ∈ srS l, sds s ≤ 7 := sd_sub h7 fun s => mem_srS.mp
  have sl7 : (srS l).length ≤ 7 := by have := len_srF l (acc := []); rw [srS]; simp at *; omega
  have oks : RowOkS (srS l) := ⟨s7, by omega⟩
  walk_at "ds"
  refine ⟨_, ⟨l, rfl, hl.ok, rfl⟩, fun G1 g1 => ?_⟩
  walk_at "ds"
  refine lcFtR l snD snD (fun s => false) ?_ (by omega) ?_ ?_
  · intro P hP
    walk_at "ds"
    exact hP _ _ (fun _ _ => trivial) (Grow.refl _)
  · intro s hs
    refine ⟨_, rfl, fun G2 K hK => ?_, fun h => absurd h (by decide)⟩
    walk_at "ds"
    refine inT_row (h7 s hs) s7 ?_
    rw [decide_eq_true (mem_srS.mpr hs)]
    exact hK _ (Grow.refl _)
  intro G2 g2
  rw [show l.filter (fun _ => false) = [] from by simp]
  walk_at "ds"
  refine ne_nil ?_
  walk_at "ds"
  refine lcFtR (srS l) snD snD (fun s => false) ?_ (by omega) ?_ ?_
  · intro P hP
    walk_at "ds"
    exact hP _ _ (fun _ _ => trivial) (Grow.refl _)
  · intro s hs
    refine ⟨_, rfl, fun G2 K hK => ?_, fun h => absurd h (by decide)⟩
    walk_at "ds"
    refine inT_row (s7 s hs) h7 ?_
    rw [decide_eq_true (mem_srS.mp hs)]
    exact hK _ (Grow.refl _)
  intro G3 g3
  rw [show (srS l).filter (fun _ => false) = [] from by simp]
  walk_at "ds"
  refine ne_nil ?_
  walk_at "ds"
  have asc : AscS (srS l) := asc_sr l List.Pairwise.nil
  refine lcFtR (List.range ((srS l).length - 1)) (fun k => .int (1 + (k : Nat))) (fun k => .int (1 + (k : Nat))) (fun k => false) ?_ (by rw [List.length_range]; omega) ?_ ?_
  · intro P hP
    walk_at "ds"
    dsimp only
    refine ⟨⟨by omega, by omega, by omega, by rw [List.length_map]; omega⟩, ?_⟩
    rw [rngD_map, List.length_map, show (((srS l).length : Nat) - 1 : Int).toNat = (srS l).length - 1 from by omega]
    exact hP _ _ (fun _ _ => trivial) (Grow.refl _)
  · intro k hk
    rw [List.mem_range] at hk
    refine ⟨_, rfl, fun G2 K hK => ?_, fun h => absurd h (by decide)⟩
    walk_at "ds"
    have hk1 : k < (srS l).length := by omega
    have hk2 : k + 1 < (srS l).length := by omega
    rw [show ((1 : Int) + (k : Nat) - 1) = ((k : Nat) : Int) from by omega, show ((1 : Int) + (k : Nat)) = ((k + 1 : Nat) : Int) from by omega, show (((k + 1 : Nat) : Int) + 1) = ((k + 2 : Nat) : Int) from by omega,
      cut_two (by omega) (by omega), cut_two (by omega) (by omega), show k + 1 - k = 1 from by omega, show k + 2 - (k + 1) = 1 from by omega,
      List.drop_eq_getElem_cons hk1, List.take_succ_cons, List.take_zero, List.drop_eq_getElem_cons hk2, List.take_succ_cons, List.take_zero]
    refine ⟨_, ⟨[(srS l)[k]], [(srS l)[k + 1]], rfl, ⟨?_, by simp⟩, ⟨?_, by simp⟩, rfl⟩, fun G3 g3 => ?_⟩
    · intro s hs; rw [List.mem_singleton] at hs; subst hs; exact s7 _ (List.getElem_mem hk1)
    · intro s hs; rw [List.mem_singleton] at hs; subst hs; exact s7 _ (List.getElem_mem hk2)
    rw [lets_law_b (List.pairwise_iff_getElem.mp asc k (k + 1) hk1 hk2 (by omega))]
    walk_at "ds"
    exact hK _ g3
  intro G4 g4
  rw [show (List.range ((srS l).length - 1)).filter (fun _ => false) = [] from by simp]
  walk_at "ds"
  refine ne_nil ?_
  walk_at "ds"
  have done : ∀ {m : List Sn}, (∀ s, s ∈ srS l ↔ s ∈ m) → srS m = srS l := fun {m} h => (srS_of asc h).symm
  refine ⟨_, ⟨srS l, rfl, oks, rfl⟩, fun G5 g5 => ?_⟩
  rw [done (m := srS l) fun s => Iff.rfl]
  walk_at "ds"
  refine ne_row s7 s7 ?_
  rw [decide_eq_true rfl]
  walk_at "ds"
  rw [← List.map_reverse]
  refine ⟨_, ⟨l.reverse, rfl, ⟨sd_sub h7 fun s => List.mem_reverse.mp, by rw [List.length_reverse]; omega⟩, rfl⟩, fun G6 g6 => ?_⟩
  rw [done (m := l.reverse) fun s => by rw [mem_srS, List.mem_reverse]]
  walk_at "ds"
  refine ne_row s7 s7 ?_
  rw [decide_eq_true rfl]
  walk_at "ds"
  refine mul_ti (by decide) (by decide) (by rw [List.length_map]; omega) ?_
  walk_at "ds"
  rw [show (List.replicate (Int.toNat 2) (l.map snD)).flatten = (l ++ l).map snD from by simp [show Int.toNat 2 = 2 from rfl, List.replicate]]
  refine ⟨_, ⟨l ++ l, rfl, ⟨sd_sub h7 fun s h => (List.mem_append.mp h).elim id id, by rw [List.length_append]; omega⟩, rfl⟩, fun G7 g7 => ?_⟩
  rw [done (m := l ++ l) fun s => by rw [mem_srS, List.mem_append, or_self]]
  walk_at "ds"
  refine ne_row s7 s7 ?_
  rw [decide_eq_true rfl]
  walk_at "ds"
  refine add_tt (by rw [List.length_map]; show l.length + 2 ≤ sizeLine; omega) ?_
  walk_at "ds"
  have p7 : ∀ s ∈ l ++ [Sn.more, .side true .tick], sds s ≤ 7 := by
    intro s hs
    rcases List.mem_append.mp hs with h | h
    · exact h7 s h
    · simp only [List.mem_cons, List.not_mem_nil, or_false] at h
      rcases h with rfl | rfl
      · decide
      · decide
  rw [show l.map snD ++ [D.str "more", .tup [.str "right", .str "tick"]] = (l ++ [Sn.more, .side true .tick]).map snD from by simp [snD, sidS]]
  refine ⟨_, ⟨l ++ [Sn.more, .side true .tick], rfl, ⟨p7, by simp; omega⟩, rfl⟩, fun G8 g8 => ?_⟩
  have q7 : ∀ s ∈ srS (l ++ [Sn.more, .side true .tick]), sds s ≤ 7 := sd_sub p7 fun s => mem_srS.mp
  have hlen : (srS (l ++ [Sn.more, .side true .tick])).length ≤ (srS l).length + 2 := by
    have e : srS (l ++ [Sn.more, .side true .tick]) = insS (insS (srS l) .more) (.side true .tick) := by simp [srS, srF]
    rw [e]
    have h1 := len_ins (insS (srS l) .more) (.side true .tick)
    have h2 := len_ins (srS l) .more
    omega
  have hmem : ∀ s ∈ srS l, s ∈ srS (l ++ [Sn.more, .side true .tick]) := fun s hs => by
    rw [mem_srS, List.mem_append]
    exact .inl (mem_srS.mp hs)
  generalize srS (l ++ [Sn.more, .side true .tick]) = late at q7 hlen hmem ⊢
  walk_at "ds"
  refine lcFtR (srS l) snD snD (fun s => false) ?_ (by omega) ?_ ?_
  · intro P hP
    walk_at "ds"
    exact hP _ _ (fun _ _ => trivial) (Grow.refl _)
  · intro s hs
    refine ⟨_, rfl, fun G2 K hK => ?_, fun h => absurd h (by decide)⟩
    walk_at "ds"
    refine inT_row (s7 s hs) q7 ?_
    rw [decide_eq_true (hmem s hs)]
    exact hK _ (Grow.refl _)
  intro G9 g9
  rw [show (srS l).filter (fun _ => false) = [] from by simp]
  walk_at "ds"
  refine eq_nil ?_
  walk_at "ds"
  rw [List.length_map, List.length_map, decide_eq_true (by omega)]
  exact hq _ ((((((((g1.trans g2).trans g3).trans g4).trans g5).trans g6).trans g7).trans g8).trans g9)
end K13

namespace K13
open PySem L2 Dl K06 K05
local macro_rules | `(tactic| walk_at "ds") => `(tactic| repeat' with_reducible first
  | refine iVar (by with_unfolding_all rfl) ?_
  | refine iCons ?_
  | refine iNil ?_
  | refine iC ?_
  | refine iOp ?_
  | refine iSeq ?_
  | refine iAsg ?_
  | refine iGNm ?_
  | refine iTup ?_
  | refine iFrz ?_
  | refine iTst ?_
  | refine iIfS ?_
  | refine iRet ?_
  | refine iCall ?_
  | refine iLst ?_
  | refine iNext ?_
  | refine lenOk (by with_unfolding_all rfl) ?_
  | refine frzEnd ?_
  | refine slT ?_
  | refine iTru ?_
  | refine truB ?_
  | refine iAnd ?_
  | refine iOr ?_
  | refine iNot ?_
  | refine ifT ?_
  | refine ifF ?_
  | refine iCB ?_
  | refine iSl ?_
  | refine iP ?_
  | refine iNoP ?_
  | refine iFor ?_
  | refine iISq ?_
  | refine rIx_i (by with_unfolding_all rfl) (by with_unfolding_all rfl) ?_
  | refine rIx_i (by with_unfolding_all rfl) atI_0 ?_
  | refine int0 ?_
  | refine len_t ?_
  | refine ifNT ?_
  | fail "stuck")
def spOr : DSp := fun ds G Q _ => ∃ (p : Addr) (R : List (List Sn)), ds = [.ref p] ∧ G p = some (.lst (R.map rowD)) ∧ (∀ l ∈ R, RwT l) ∧ R.length ≤ 20 ∧ ∀ G', Grow G G' → Q (.bl true) G'
theorem ok_bls (a b : Bool) : okD (.lst [.bl a, .bl b]) := ⟨by simp [pureD, pureDs], by simp [depD, depDs]⟩
theorem eq_bls {a b c d : Bool} {G : GH} {Q : DK} (h : Q (.bl (a == c && b == d)) G) : rEqv (.lst [.bl a, .bl b]) (.lst [.bl c, .bl d]) G Q := by
  refine eq_ll (ok_bls a b) (ok_bls c d) ?_
  rw [show eqvD (.lst [.bl a, .bl b]) (.lst [.bl c, .bl d]) = (a == c && b == d) from by simp [eqvD, eqvDs]]
  exact h
theorem ne_bl {a b : Bool} {G : GH} {Q : DK} (h : Q (.bl (!(a == b))) G) : rNev (.bl a) (.bl b) G Q := by
  refine ⟨⟨rfl, by simp [depD]⟩, ⟨rfl, by simp [depD]⟩, ?_⟩
  show Q (.bl (!eqvD (.bl a) (.bl b))) G
  rw [show eqvD (.bl a) (.bl b) = (a == b) from by simp [eqvD]]
  exact h
theorem and_skip {b : Bool} {t2 : DTT} {ρ : DSt} {G : GH} {K : Bool → GH → Prop} (h2 : b = true → ∀ K' : Bool → GH → Prop, K' false G → t2 ρ G K') (h : K false G) : (if b = true then t2 ρ G K else K false G) := by
  cases b with
  | false => exact h
  | true => exact h2 rfl K h
theorem cut_to {a b : List Sn} (h : a.length ≤ b.length) : cutD (b.map snD) none (some (a.length : Nat)) = (b.take a.length).map snD := by
  have := cut_two (l := b) (i := 0) (j := a.length) (by omega) h
  rw [List.drop_zero, Nat.sub_zero] at this
  rw [← this]
  unfold cutD HT.sIx
  simp
theorem law_order_right_rd : ∀ ds G Q E, spOr ds G Q E → r_law_order_right (pSp RAc) { nx := fun _ G' => Q .non G', rt := Q } (startD 5 ds) G := by
  rintro ds G Q E ⟨p, R, rfl, ep, hR, hlR, hq⟩
  unfold r_law_order_right
  have hz : (3000 : Nat) ≤ sizeLine := by decide
  walk_at "ds"
  dsimp only
  rw [ep]
  refine dForGo_of (I := fun rest ρ G' => ∃ (M : List (List Sn)) (x1 x2 x3 x4 : Option D), rest = M.map rowD ∧ (∀ l ∈ M, l ∈ R) ∧ ρ = [some (.ref p), x1, x2, x3, x4] ∧ Grow G G') ?_ ?_ _ _ _ ⟨R, none, none, none, none, rfl, fun _ h => h, rfl, Grow.refl _⟩
  · rintro ρ G1 ⟨M, x1, x2, x3, x4, hM, hin, rfl, g1⟩
    refine ⟨g1 _ _ ep, ?_⟩
    walk_at "ds"
    exact hq _ g1
  · rintro y rest ρ G1 ⟨M, x1, x2, x3, x4, hM, hin, rfl, g1⟩ K hK
    refine ⟨g1 _ _ ep, ?_⟩
    cases M with
    | nil => cases hM
    | cons a M =>
      rw [List.map_cons] at hM
      injection hM with h1 h2
      subst h1; subst h2
      have ha := hR a (hin a (List.mem_cons_self ..))
      have la := ha.ln
      have a7 := ha.ok.sd
      walk_at "ds"
      dsimp only
      rw [g1 _ _ ep]
      refine dForGo_of (I := fun rest ρ G' => ∃ (N : List (List Sn)) (x2 x3 x4 : Option D), rest = N.map rowD ∧ (∀ l ∈ N, l ∈ R) ∧ ρ = [some (.ref p), some (rowD a), x2, x3, x4] ∧ Grow G G') ?_ ?_ _ _ _ ⟨R, x2, x3, x4, rfl, fun _ h => h, rfl, g1⟩
      · rintro ρ G4 ⟨N, y2, y3, y4, hN, -, rfl, g4⟩
        refine ⟨g4 _ _ ep, ?_⟩
        exact hK _ _ ⟨M, _, _, _, _, rfl, fun l hl => hin l (List.mem_cons_of_mem _ hl), rfl, g4⟩
      · rintro y rest ρ G4 ⟨N, y2, y3, y4, hN, hin2, rfl, g4⟩ K2 hK2
        refine ⟨g4 _ _ ep, ?_⟩
        cases N with
        | nil => cases hN
        | cons b N =>
          rw [List.map_cons] at hN
          injection hN with h1 h2
          subst h1; subst h2
          have hb := hR b (hin2 b (List.mem_cons_self ..))
          have lb := hb.ln
          have b7 := hb.ok.sd
          walk_at "ds"
          refine ⟨_, ⟨a, b, rfl, ha.ok, hb.ok, rfl⟩, fun G5 g5 => ?_⟩
          walk_at "ds"
          refine ⟨_, ⟨b, a, rfl, hb.ok, ha.ok, rfl⟩, fun G6 g6 => ?_⟩
          walk_at "ds"
          unfold rowD
          refine eq_row a7 b7 ?_
          walk_at "ds"
          refine eq_bls ?_
          refine ne_bl ?_
          rw [show (decide (a = b) == (erl a b == false && erl b a == false)) = true from by
            rcases erl_iff a b with e | e | e
            · subst e; rw [erl_irr]; simp
            · rw [e, erl_asym e, decide_eq_false (fun z => by subst z; rw [erl_irr] at e; cases e)]; rfl
            · rw [e, erl_asym e, decide_eq_false (fun z => by subst z; rw [erl_irr] at e; cases e)]; rfl]
          walk_at "ds"
          refine eq_bls ?_
          rw [show (erl a b == true && erl b a == true) = false from by
            cases e : erl a b with
            | false => rfl
            | true => rw [erl_asym e]; rfl]
          walk_at "ds"
          dsimp only
          refine and_skip ?_ ?_
          · intro hb2 K' hK'
            have hlt : a.length < b.length := by simpa using hb2
            walk_at "ds"
            rw [List.length_map, cut_to (by omega)]
            refine eq_row (sd_sub b7 fun s => List.mem_of_mem_take) a7 ?_
            by_cases e : b.take a.length = a
            · rw [decide_eq_true e]
              have hp : erl a b = true := by
                have e2 : b = a ++ b.drop a.length := by
                  have := List.take_append_drop a.length b
                  rw [e] at this; exact this.symm
                rw [e2]
                exact erl_pre a _ fun z => by
                  have := congrArg List.length z
                  rw [List.length_drop, List.length_nil] at this
                  omega
              walk_at "ds"
              rw [hp]
              exact hK'
            · rw [decide_eq_false e]
              exact hK'
          walk_at "ds"
          refine add_tt (by rw [List.length_map]; show 1 + a.length ≤ sizeLine; omega) ?_
          walk_at "ds"
          refine add_tt (by rw [List.length_map]; show 1 + b.length ≤ sizeLine; omega) ?_
          walk_at "ds"
          have okf : ∀ {l : List Sn}, RwT l → RowOkS (.fin :: l) := fun {l} h => ⟨fun s hs => by
            rcases List.mem_cons.mp hs with e | e
            · subst e; decide
            · exact h.ok.sd s e, by have := h.ln; rw [List.length_cons]; omega⟩
          refine ⟨_, ⟨.fin :: a, .fin :: b, rfl, okf ha, okf hb, rfl⟩, fun G7 g7 => ?_⟩
          rw [show erl (.fin :: a) (.fin :: b) = erl a b from by rw [erl, if_pos rfl]]
          walk_at "ds"
          refine ne_bl ?_
          rw [beq_self_eq_true]
          walk_at "ds"
          have g47 := ((g4.trans g5).trans g6).trans g7
          refine lcFtR R rowD rowD (fun _ => false) ?_ (by omega) ?_ ?_
          · intro P hP
            walk_at "ds"
            dsimp only
            rw [g47 _ _ ep]
            exact hP _ _ (fun G' g => g _ _ (g47 _ _ ep)) (Grow.refl _)
          · intro c hc
            have hc := hR c hc
            refine ⟨_, rfl, fun G2 K hK => ?_, fun h => absurd h (by decide)⟩
            walk_at "ds"
            cases e1 : erl a b with
            | false => exact hK _ (Grow.refl _)
            | true =>
              walk_at "ds"
              refine ⟨_, ⟨b, c, rfl, hb.ok, hc.ok, rfl⟩, fun G8 g8 => ?_⟩
              walk_at "ds"
              cases e2 : erl b c with
              | false => exact hK _ g8
              | true =>
                walk_at "ds"
                refine ⟨_, ⟨a, c, rfl, ha.ok, hc.ok, rfl⟩, fun G9 g9 => ?_⟩
                rw [erl_trans a b c e1 e2]
                exact hK _ (g8.trans g9)
          intro G8 g8
          rw [show R.filter (fun _ => false) = [] from by simp]
          walk_at "ds"
          refine ne_nil ?_
          walk_at "ds"
          exact hK2 _ _ ⟨N, _, _, _, rfl, fun l hl => hin2 l (List.mem_cons_of_mem _ hl), rfl, g47.trans g8⟩
end K13

namespace K13
open PySem L2 Dl K06 K05
local macro_rules | `(tactic| walk_at "ds") => `(tactic| repeat' with_reducible first
  | refine iVar (by with_unfolding_all rfl) ?_
  | refine iCons ?_
  | refine iNil ?_
  | refine iC ?_
  | refine iXPa ?_
  | refine iXCall ?_
  | refine iNeg ?_
  | refine iP ?_
  | refine iNoP ?_
  | fail "stuck")
theorem dgP_cut : ∀ (ds : List Nat) (f : Bool) (n : Nat), ds ≠ [] → (f = true → ∀ c t, ds = c :: t → c ≠ 0) → dgP ds.length f n ds.dropLast = .error 0
  | [], _, _, h, _ => absurd rfl h
  | [c], f, n, _, _ => rfl
  | c :: d :: ds, f, n, _, h => by
    rw [List.dropLast_cons₂, List.length_cons, dgP, if_neg (fun e => h e.1 c _ rfl e.2)]
    exact dgP_cut (d :: ds) false _ (by simp) (fun e => by cases e)
theorem tdP_cut (n : Nat) : tdP (nc n).dropLast = .error 0 := by
  rw [nc]
  cases h : dg n with
  | nil => rfl
  | cons c t =>
    rw [List.dropLast_cons₂, tdP, ← h]
    exact dgP_cut (dg n) true 0 (by rw [h]; simp) (fun _ => dg_head n)
theorem cod_ne (s : Sn) : cod s ≠ [] := by cases s <;> simp [cod]
theorem nc_ne (n : Nat) : nc n ≠ [] := by simp [nc]
theorem drop_cons {α : Type} {c : α} {l : List α} (h : l ≠ []) : (c :: l).dropLast = c :: l.dropLast := by
  cases l with
  | nil => exact absurd rfl h
  | cons => rfl
theorem sgP_cut : ∀ (s : Sn) (a : Nat), a + sds s ≤ 29 → sgP a (cod s).dropLast = .error 0
  | .tick, a, _ => rfl
  | .more, a, _ => rfl
  | .fin, a, _ => rfl
  | .num w n, a, _ => by
    rw [cod, drop_cons (nc_ne n), sgP, tdP_cut]
    cases w <;> simp
  | .side r s, a, h => by
    rw [sds] at h
    rw [cod, drop_cons (cod_ne s), sgP, sgP_cut s (a + 1) (by omega)]
    cases r <;> simp <;> omega
theorem allP_app : ∀ (l : List Sn) (k : Nat) (m : List Nat), (∀ s ∈ l, sds s ≤ 29) → l.length ≤ k → allP k (cods l ++ m) = (match allP (k - l.length) m with
    | .ok t => .ok (l ++ t)
    | .error r => .error r)
  | [], k, m, _, _ => by
    show allP k m = _
    rw [List.length_nil, Nat.sub_zero]
    cases allP k m <;> rfl
  | s :: l, 0, _, _, h => by simp at h
  | s :: l, k + 1, m, hs, h => by
    have e := sgP_cod s 0 (cods l ++ m) (by have := hs s (List.mem_cons_self ..); omega)
    rw [cods_cons, List.append_assoc]
    cases hc : cod s ++ (cods l ++ m) with
    | nil => exact absurd (List.append_eq_nil_iff.mp hc).1 (cod_ne s)
    | cons c t =>
      rw [allP, ← hc, e]
      dsimp only
      rw [allP_app l k m (fun t ht => hs t (List.mem_cons_of_mem _ ht)) (by simp at h; omega), List.length_cons, show k + 1 - (l.length + 1) = k - l.length from by omega]
      cases allP (k - l.length) m <;> rfl
def plnS : Sn → Bool
  | .tick => true
  | .more => true
  | .fin => true
  | _ => false
theorem cod_one (s : Sn) : (cod s).dropLast = [] ↔ plnS s = true := by
  cases s with
  | num w n => rw [cod, drop_cons (nc_ne n)]; simp [plnS]
  | side r s => rw [cod, drop_cons (cod_ne s)]; simp [plnS]
  | _ => simp [cod, plnS]
theorem cods_snoc (l : List Sn) (s : Sn) : cods (l ++ [s]) = cods l ++ cod s := by simp [cods]
theorem cods_drop (l : List Sn) (s : Sn) : (cods (l ++ [s])).dropLast = cods l ++ (cod s).dropLast := by
  rw [cods_snoc, List.dropLast_append_of_ne_nil (cod_ne s)]
theorem allP_cut {l : List Sn} {s : Sn} (h : ∀ t ∈ l ++ [s], sds t ≤ 29) {k : Nat} (hk : k = (cods (l ++ [s])).dropLast.length) : allP k (cods (l ++ [s])).dropLast = if plnS s = true then .ok l else .error 0 := by
  have hl : ∀ t ∈ l, sds t ≤ 29 := fun t ht => h t (List.mem_append_left _ ht)
  have hs : sds s ≤ 29 := h s (by simp)
  have hlen := cods_len l
  rw [cods_drop, List.length_append] at hk
  rw [cods_drop, allP_app l k _ hl (by omega)]
  by_cases hp : plnS s = true
  · rw [if_pos hp, (cod_one s).mpr hp]
    cases (k - l.length) <;> simp [allP]
  · rw [if_neg hp]
    have e := sgP_cut s 0 (by omega)
    cases hc : (cod s).dropLast with
    | nil => exact absurd ((cod_one s).mp hc) hp
    | cons c t =>
      rw [hc] at e hk
      obtain ⟨j, hj⟩ : ∃ j, k - l.length = j + 1 := ⟨k - l.length - 1, by rw [List.length_cons] at hk; omega⟩
      rw [hj, allP, e]
theorem cods_inj {a b : List Sn} (ha : ∀ s ∈ a, sds s ≤ 29) (hb : ∀ s ∈ b, sds s ≤ 29) (h : cods a = cods b) : a = b := by
  have e1 := allP_cods a (max a.length b.length) ha (Nat.le_max_left ..)
  have e2 := allP_cods b (max a.length b.length) hb (Nat.le_max_right ..)
  rw [h, e2] at e1
  injection e1 with e1
  exact e1.symm
theorem byL_inj {a b : List Nat} (ha : ∀ c ∈ a, c < 256) (hb : ∀ c ∈ b, c < 256) (h : byL a = byL b) : a = b := by rw [← byN_byL ha, h, byN_byL hb]
theorem cut_last {L : List Nat} (h : L ≠ []) : PySem.W.KBy.picked (byL L) none (some (-1)) = byL L.dropLast := by
  have hl : 1 ≤ L.length := by cases L with | nil => exact absurd rfl h | cons => simp
  rw [PySem.W.KBc.picked_eq]
  have e : (byL L).toList = L.map Nat.toUInt8 := by simp [byL]
  rw [e]
  have ec : PySem.clipAt (byL L).size (-1) = L.length - 1 := by
    unfold PySem.clipAt
    rw [byL_len, if_pos (by decide)]
    omega
  show (((L.map Nat.toUInt8).drop 0).take (PySem.clipAt (byL L).size (-1) - 0)).toArray = _
  rw [ec, List.drop_zero, Nat.sub_zero, ← List.map_take, ← List.dropLast_eq_take]
  rfl
def qBr : Str := "_law_bytes_right.<locals>.<lambda>"
def cutO (l : List Sn) (s : Sn) (n : Nat) : D := if plnS s = true then .tup [.str "told", .tup (l.map snD)] else .tup [.str "use", .str "byte", .int (n : Nat)]
theorem heard_cut {Tb : Addr} {l : List Sn} {s : Sn} {i : Nat} {ρ : DSt} {G : GH} {Q : DK} (hT : G Tb = some (.tab qBr)) (hg : GoodRow (l ++ [s])) (hv : sl ρ i = some (.byt (byL (cods (l ++ [s])))))
    (hq : ∀ G', Grow G G' → Q (cutO l s ((cods (l ++ [s])).length - 1)) G') : dHearL Tb qBr r_law_heard 4 (xCall (pSpX RUn) (xPa (dCons (dSlB (dVar i) dNoP (dP (dNeg (dC (.int 1))))) dNil))) ρ G Q := by
  have h29 : ∀ t ∈ l ++ [s], sds t ≤ 29 := fun t ht => (hg.1 t ht).2
  have h8 := cods_lt hg
  have hne : cods (l ++ [s]) ≠ [] := by rw [cods_snoc]; exact fun e => cod_ne s (List.append_eq_nil_iff.mp e).2
  have hd8 : ∀ c ∈ (cods (l ++ [s])).dropLast, c < 256 := fun c hc => by rw [List.dropLast_eq_take] at hc; exact h8 c (List.mem_of_mem_take hc)
  have hsz : (byL (cods (l ++ [s])).dropLast).size = (cods (l ++ [s])).length - 1 := by rw [byL_len, List.length_dropLast]
  have hlen := hg.2
  have un : unO (byL (cods (l ++ [s])).dropLast) = if plnS s = true then .ok (.tup (l.map snD)) else .error (K03.nuA "byte" (((cods (l ++ [s])).length - 1 : Nat) : Int)) := by
    unfold unO
    rw [byN_byL hd8, allP_cut h29 (by rw [byL_len])]
    by_cases hp : plnS s = true
    · rw [if_pos hp, if_pos hp]
    · rw [if_neg hp, if_neg hp, hsz]; rfl
  have call : ∀ (E' : DXK) (Q' : DK), (match unO (byL (cods (l ++ [s])).dropLast) with | .ok d => ∀ G', Grow G G' → Q' d G' | .error x => ∀ G', Grow G G' → E' x G') →
      (xCall (pSpX RUn) (xPa (dCons (dSlB (dVar i) dNoP (dP (dNeg (dC (.int 1))))) dNil))) (fun x _ G2 => E' x G2) ρ G Q' := by
    intro E' Q' h
    refine iXCall ?_
    refine iXPa ?_
    refine iCons ?_
    refine iSlB ?_
    refine iVar hv ?_
    walk_at "ds"
    refine ⟨by rw [byL_len]; omega, ?_⟩
    rw [cut_last hne]
    refine iNil ?_
    refine ⟨_, .inl ⟨_, rfl, by rw [hsz]; omega, rfl⟩, fun G' g => ?_⟩
    cases e : unO (byL (cods (l ++ [s])).dropLast) with
    | ok d => rw [e] at h; exact h G' g
    | error x => rw [e] at h; exact h G' g
  unfold cutO at hq
  by_cases hp : plnS s = true
  · rw [if_pos hp] at hq un
    refine hearL_told hT (fun E' Q' h1 => call E' Q' ?_) hq
    rw [un]; exact h1
  · rw [if_neg hp] at hq un
    refine hearL_use hT (fun E' Q' h1 => call E' Q' ?_) hq
    rw [un]; exact h1
end K13

namespace K13
open PySem L2 Dl K06 K05
local macro_rules | `(tactic| walk_at "ds") => `(tactic| repeat' with_reducible first
  | refine iVar (by with_unfolding_all rfl) ?_
  | refine iCons ?_
  | refine iNil ?_
  | refine iC ?_
  | refine iOp ?_
  | refine iSeq ?_
  | refine iAsg ?_
  | refine iGNm ?_
  | refine iTup ?_
  | refine iFrz ?_
  | refine iTst ?_
  | refine iIfS ?_
  | refine iRet ?_
  | refine iCall ?_
  | refine iNext ?_
  | refine iNeg ?_
  | refine iPar ?_
  | refine iGTp (by with_unfolding_all rfl) ?_
  | refine iGsCons ?_
  | refine iGsNil ?_
  | refine lenOk (by with_unfolding_all rfl) ?_
  | refine slT ?_
  | refine iTru ?_
  | refine truB ?_
  | refine iOr ?_
  | refine iNot ?_
  | refine iAndVK ?_
  | refine andVT ?_
  | refine ifT ?_
  | refine ifF ?_
  | refine iCB ?_
  | refine iSl ?_
  | refine iP ?_
  | refine iNoP ?_
  | refine iISq ?_
  | refine rIx_i (by with_unfolding_all rfl) (by with_unfolding_all rfl) ?_
  | refine rIx_i (by with_unfolding_all rfl) atI_0 ?_
  | refine eq_strT ?_
  | refine eq_strF (by with_unfolding_all rfl) ?_
  | refine ne_ii ?_
  | refine add_ii ?_
  | refine int0 ?_
  | refine ifNT ?_
  | fail "stuck")
theorem good_t {l : List Sn} (h : ∀ s ∈ l, SmSg 3 s) (hl : l.length ≤ 20) : GoodRow l := by
  refine ⟨fun s hs => ⟨(h s hs).ok, by have := (h s hs).sd; omega⟩, ?_⟩
  have key : ∀ l : List Sn, (∀ s ∈ l, SmSg 3 s) → (cods l).length ≤ l.length * 8 := by
    intro l
    induction l with
    | nil => intro _; simp [cods]
    | cons s l ih =>
      intro h
      have := ih fun t ht => h t (List.mem_cons_of_mem _ ht)
      have := (h s (List.mem_cons_self ..)).ln
      rw [cods_cons, List.length_append, List.length_cons]; omega
  have := key l h
  omega
theorem byL_app2 (a b : List Sn) : byL (cods a) ++ byL (cods b) = byL (cods (a ++ b)) := by rw [byL_app]; simp [cods]
theorem ints_i {ns : List Int} {G : GH} {P : List Int → Prop} (h : P ns) : intsP G (.lst (ns.map D.int)) P := by
  unfold intsP lsOf
  dsimp only
  rw [intsD_map]
  exact h
theorem sum_i {ns : List Int} {G : GH} {Q : DK} (h : Q (.int ns.sum) G) : rSumC [.lst (ns.map D.int)] G Q := ints_i (G := G) (P := fun ns => Q (.int ns.sum) G) h
theorem cods_sumI : ∀ l : List Sn, (l.map fun s => (((cod s).length : Nat) : Int)).sum = (((cods l).length : Nat) : Int)
  | [] => rfl
  | s :: l => by rw [List.map_cons, List.sum_cons, cods_sumI l, cods_cons, List.length_append]; omega
theorem cut_m1 (l : List Sn) (s : Sn) : cutD ((l ++ [s]).map snD) none (some (-1)) = l.map snD := by
  unfold cutD HT.sIx
  rw [List.length_map, List.length_append, List.length_singleton]
  show (((l ++ [s]).map snD).drop 0).take ((if (-1 : Int) < 0 then ((-1 : Int) + ((l.length + 1 : Nat) : Int)).toNat else min (-1 : Int).toNat (l.length + 1)) - 0) = _
  rw [if_pos (by decide), show ((-1 : Int) + ((l.length + 1 : Nat) : Int)).toNat - 0 = l.length from by omega, List.drop_zero, List.map_append, List.take_left' (by rw [List.length_map])]
theorem pln_mem {s : Sn} (h : plnS s = true) : s ∈ [Sn.tick, .more, .fin] := by cases s <;> simp [plnS] at h ⊢
theorem at_m1 (l : List Sn) (s : Sn) : atI ((l ++ [s]).map snD) (-1) = some (snD s) := by
  rw [List.map_append]
  exact K03.atI_last _ _
def spBr (Tb : Addr) : DSp := fun ds G Q _ => ∃ a b : List Sn, ds = [.tup (a.map snD), .tup (b.map snD)] ∧ RwT a ∧ RwT b ∧ G Tb = some (.tab qBr) ∧ ∀ G', Grow G G' → Q (.bl true) G'
theorem RwT.g {l : List Sn} (h : RwT l) : GoodRow l := good_t h.sm (by have := h.ln; omega)
theorem law_bytes_right_rd {Tb : Addr} : ∀ ds G Q E, spBr Tb ds G Q E → r_law_bytes_right Tb (pSp RPc) (pSp K18.RSs) (pSp RUc) (pSpX RUn) { nx := fun _ G' => Q .non G', rt := Q } (startD 7 ds) G := by
  rintro ds G Q E ⟨a, b, rfl, ha, hb, hT, hq⟩
  unfold r_law_bytes_right
  have hz : (3000 : Nat) ≤ sizeLine := by decide
  have la := ha.ln
  have lb := hb.ln
  have a7 := ha.ok.sd
  have b7 := hb.ok.sd
  have ga := ha.g
  have gb := hb.g
  have gab : GoodRow (a ++ b) := good_t (fun s hs => (List.mem_append.mp hs).elim (ha.sm s) (hb.sm s)) (by rw [List.length_append]; omega)
  have ab7 : ∀ s ∈ a ++ b, sds s ≤ 7 := fun s hs => (List.mem_append.mp hs).elim (a7 s) (b7 s)
  have sz : ∀ {l : List Sn}, GoodRow l → (byL (cods l)).size ≤ 230 := fun h => by rw [byL_len]; exact h.2
  have h16 : (230 : Nat) + 230 ≤ 16777216 := by decide
  walk_at "ds"
  refine ⟨_, ⟨a, rfl, ga, rfl⟩, fun G1 g1 => ?_⟩
  walk_at "ds"
  refine ⟨_, ⟨b, rfl, gb, rfl⟩, fun G2 g2 => ?_⟩
  walk_at "ds"
  refine ⟨_, ⟨_, a, rfl, sz ga, all_pk ga, rfl⟩, fun G3 g3 => ?_⟩
  walk_at "ds"
  refine ne_row a7 a7 ?_
  rw [decide_eq_true rfl]
  walk_at "ds"
  refine ⟨_, ⟨_, b, rfl, sz gb, all_pk gb, rfl⟩, fun G4 g4 => ?_⟩
  walk_at "ds"
  refine ⟨_, ⟨b, rfl, gb, rfl⟩, fun G5 g5 => ?_⟩
  walk_at "ds"
  refine cmpB_i ?_
  rw [decide_eq_true rfl]
  walk_at "ds"
  refine ⟨by have := sz ga; have := sz gb; omega, ?_⟩
  rw [byL_app2]
  walk_at "ds"
  refine ⟨_, ⟨_, a ++ b, rfl, sz gab, all_pk gab, rfl⟩, fun G6 g6 => ?_⟩
  walk_at "ds"
  refine add_tt (by rw [List.length_map, List.length_map]; omega) ?_
  rw [← List.map_append]
  refine ne_row ab7 ab7 ?_
  rw [decide_eq_true rfl]
  walk_at "ds"
  refine add_tt (by rw [List.length_map, List.length_map]; omega) ?_
  walk_at "ds"
  rw [← List.map_append]
  refine ⟨_, ⟨a ++ b, rfl, gab, rfl⟩, fun G7 g7 => ?_⟩
  walk_at "ds"
  refine ⟨by have := sz ga; have := sz gb; omega, ?_⟩
  rw [byL_app2]
  refine cmpB_i ?_
  rw [decide_eq_true rfl]
  walk_at "ds"
  refine cmpB_i ?_
  walk_at "ds"
  refine eq_row a7 b7 ?_
  refine ne_bl ?_
  dsimp only [id]
  rw [show (decide (byL (cods a) = byL (cods b)) == decide (a = b)) = true from by
    rw [beq_iff_eq, decide_eq_decide]
    exact ⟨fun e => cods_inj (fun s hs => (ga.1 s hs).2) (fun s hs => (gb.1 s hs).2) (byL_inj (cods_lt ga) (cods_lt gb) e), fun e => by rw [e]⟩]
  walk_at "ds"
  refine lenB_i (by have := sz ga; omega) ?_
  walk_at "ds"
  have g1a : ∀ s ∈ a, GoodRow [s] := fun s hs => good_t (fun t ht => by rw [List.mem_singleton] at ht; subst ht; exact ha.sm t hs) (by simp)
  refine lcF a snD (fun s => .int ((cod s).length : Nat)) ?_ (by omega) ?_ ?_
  · intro P hP
    walk_at "ds"
    exact hP _ _ (fun _ => trivial) (Grow.refl _)
  · intro s hs
    refine ⟨_, rfl, fun G8 K hK => ?_⟩
    walk_at "ds"
    refine ⟨_, ⟨[s], rfl, g1a s hs, rfl⟩, fun G9 g9 => ?_⟩
    walk_at "ds"
    refine lenB_i (by have := sz (g1a s hs); omega) ?_
    rw [byL_len, show cods [s] = cod s from by simp [cods]]
    exact hK _ g9
  intro G8 g8
  walk_at "ds"
  rw [show a.map (fun s => D.int (((cod s).length : Nat) : Int)) = (a.map fun s => (((cod s).length : Nat) : Int)).map D.int from by rw [List.map_map]; rfl]
  refine sum_i ?_
  rw [cods_sumI, byL_len]
  refine ne_ii ?_
  rw [decide_eq_true rfl]
  walk_at "ds"
  refine ⟨_, ⟨_, a, rfl, sz ga, all_pk ga, rfl⟩, fun G9 g9 => ?_⟩
  walk_at "ds"
  obtain ⟨r1, r2⟩ := row_sgs ha.ok
  refine ⟨_, ⟨_, rfl, r1, r2, rfl⟩, fun G10 g10 => ?_⟩
  rw [isSgs_sn]
  walk_at "ds"
  refine add_tt (by rw [List.length_map]; show 1 + a.length ≤ sizeLine; omega) ?_
  walk_at "ds"
  have h3 : SmSg 3 (.side false (.side true .fin)) := (sm_side false (sm_side true (sm_fin 1)))
  have gp : GoodRow (.side false (.side true .fin) :: a) := good_t (fun s hs => (List.mem_cons.mp hs).elim (fun e => e ▸ h3) (ha.sm s)) (by rw [List.length_cons]; omega)
  refine ⟨_, ⟨.side false (.side true .fin) :: a, rfl, gp, rfl⟩, fun G11 g11 => ?_⟩
  walk_at "ds"
  refine lenB_i (by have := sz gp; omega) ?_
  walk_at "ds"
  refine lenB_i (by have := sz ga; omega) ?_
  walk_at "ds"
  rw [byL_len, byL_len, cods_cons, List.length_append, show (cod (.side false (.side true .fin))).length = 3 from rfl, decide_eq_true (by omega)]
  walk_at "ds"
  refine eq_tt (okt_row a7) ⟨by simp [pureD, pureDs], by simp [depD, depDs]⟩ ?_
  have gAll := (((((((((g1.trans g2).trans g3).trans g4).trans g5).trans g6).trans g7).trans g8).trans g9).trans g10).trans g11
  rcases List.eq_nil_or_concat a with e | ⟨l, s, e⟩
  · subst e
    rw [show eqvD (.tup (([] : List Sn).map snD)) (.tup []) = true from rfl]
    walk_at "ds"
    exact hq _ gAll
  · rw [List.concat_eq_append] at e
    subst e
    rw [show eqvD (.tup ((l ++ [s]).map snD)) (.tup []) = false from by
      rw [show (.tup [] : D) = .tup (([] : List Sn).map snD) from rfl, eqv_row]
      exact decide_eq_false (by simp)]
    walk_at "ds"
    refine heard_cut (gAll _ _ hT) ga rfl fun G12 g12 => ?_
    walk_at "ds"
    refine lenB_i (by have := sz ga; omega) ?_
    walk_at "ds"
    rw [byL_len]
    unfold cutO
    have hpos : 1 ≤ (cods (l ++ [s])).length := by have := cods_len (l ++ [s]); rw [List.length_append, List.length_singleton] at this; omega
    have l7 : ∀ t ∈ l, sds t ≤ 7 := fun t ht => a7 t (List.mem_append_left _ ht)
    by_cases hp : plnS s = true
    · rw [if_pos hp]
      walk_at "ds"
      rw [cut_m1]
      refine eq_row l7 l7 ?_
      rw [decide_eq_true rfl]
      walk_at "ds"
      refine rIx_i (d := snD s) rfl (at_m1 l s) ?_
      walk_at "ds"
      refine inT_row (b := [.tick, .more, .fin]) (a7 s (by simp)) (by decide) ?_
      rw [decide_eq_true (pln_mem hp)]
      exact hq _ (gAll.trans g12)
    · rw [if_neg hp]
      walk_at "ds"
      rw [show (((cods (l ++ [s])).length : Nat) : Int) - 1 = (((cods (l ++ [s])).length - 1 : Nat) : Int) from by omega]
      refine eq_tt (ok_use (by decide +kernel)) (ok_use (by decide +kernel)) ?_
      rw [eqv_use]
      exact hq _ (gAll.trans g12)
end K13

namespace K13
open PySem L2 Dl K06 K05
local macro_rules | `(tactic| walk_at "ds") => `(tactic| repeat' with_reducible first
  | refine iVar (by with_unfolding_all rfl) ?_
  | refine iCons ?_
  | refine iNil ?_
  | refine iC ?_
  | refine iOp ?_
  | refine iSeq ?_
  | refine iAsg ?_
  | refine iGNm ?_
  | refine iTup ?_
  | refine iFrz ?_
  | refine iTst ?_
  | refine iIfS ?_
  | refine iRet ?_
  | refine iCall ?_
  | refine iLst ?_
  | refine iNext ?_
  | refine lstP_i (by assumption) ?_
  | refine lstP_i updG_same ?_
  | refine iDrop ?_
  | refine lenOk (by with_unfolding_all rfl) ?_
  | refine frzEnd ?_
  | refine slT ?_
  | refine iTru ?_
  | refine truB ?_
  | refine iOr ?_
  | refine iNot ?_
  | refine iAndVK ?_
  | refine andVT ?_
  | refine ifF ?_
  | refine iCB ?_
  | refine iMt ?_
  | refine iSl ?_
  | refine iP ?_
  | refine iNoP ?_
  | refine iFor ?_
  | refine iISq ?_
  | refine rIx_i (by with_unfolding_all rfl) (by with_unfolding_all rfl) ?_
  | refine rIx_i (by with_unfolding_all rfl) atI_0 ?_
  | refine ne_ii ?_
  | refine len_t ?_
  | refine iIRg1 ?_
  | refine ifNT ?_
  | fail "stuck")
theorem rwt_shw {R : List (List Sn)} (h : ∀ l ∈ R, RwT l) (hl : R.length ≤ 18) : Shw (.lst (R.map rowD)) := rowsq_shw (fun l q => (h l q).q) hl
def spLaw13 (Tb : Addr) : DSp := fun ds G Q _ => ∃ ns, ds = [.scr ns] ∧ G Tb = some (.tab qBr) ∧ ∀ G', Q (.bl true) G'
theorem law_rd {Tb : Addr} : ∀ ds G Q E, spLaw13 Tb ds G Q E → r_law spOr (spBr Tb) K03.spDraw spSt (pSp (K18.R1 K18.isSgB)) (pSp RLtc) spSs K03.spFeed { nx := fun _ G' => Q .non G', rt := Q } (startD 7 ds) G := by
  rintro ds G Q E ⟨ns, rfl, hT, hq⟩
  unfold r_law
  have hz : (3000 : Nat) ≤ sizeLine := by decide
  walk_at "ds"
  refine ⟨ns, rfl, fun a G1 g1 f1 ha => ?_⟩
  have t1 := g1 _ _ hT
  walk_at "ds"
  intro p hp
  have hap : a ≠ p := f1.ne hp
  walk_at "ds"
  refine ⟨by decide, by decide, ?_⟩
  refine dForGo_of (I := fun rest ρ G' => ∃ (R : List (List Sn)) (x3 x4 : Option D), (∀ l ∈ R, RwT l) ∧ R.length + 3 * rest.length ≤ 14 ∧ 2 ≤ R.length ∧
      ρ = [some (.scr ns), some (.ref a), some (.ref p), x3, x4, none, none] ∧ G' p = some (.lst (R.map rowD)) ∧ G' Tb = some (.tab qBr) ∧ K03.FeedOk G' a) ?_ ?_ _ _ _
    ⟨[[], [.tick]], none, none, ?_, by decide, by decide, rfl, updG_same, Grow.upd hp _ _ t1, feed_upd f1 hap⟩
  rotate_left
  · rintro y rest ρ G2 ⟨R, x3, x4, hR, hlen, h2, rfl, ep, tT, fa⟩ K hK
    refine ⟨trivial, ?_⟩
    rw [List.length_cons] at hlen
    walk_at "ds"
    refine ⟨a, rfl, fa, fun l G3 hl hl6 f3 k3 => ?_⟩
    have ep3 := k3 _ _ (Ne.symm hap) ep
    have t3 := tb_keep tT fa k3
    walk_at "ds"
    refine add_tt (by rw [List.length_map]; show l.length + 1 ≤ sizeLine; omega) ?_
    walk_at "ds"
    obtain ⟨l1, el1, hl1, hn1⟩ := cut_sn l none (some 3)
    have q0 : RwT l := ⟨hl, by omega⟩
    have q1 : RwT l1 := ⟨fun s hs => hl s (hl1 s hs), by omega⟩
    have q2 : RwT (l ++ [.tick]) := ⟨fun s hs => (List.mem_append.mp hs).elim (hl s) fun h => by rw [List.mem_singleton] at h; subst h; exact sm_tick 3, by simp; omega⟩
    refine ext_as (l' := (R ++ [l, l1, l ++ [.tick]]).map rowD) ep3 rfl (by show (R.map rowD).length + 3 ≤ sizeLine; rw [List.length_map]; omega) (by rw [el1]; simp [rowD, snD]) ?_
    have hR2 : ∀ r ∈ R ++ [l, l1, l ++ [.tick]], RwT r := by
      intro r hr
      rcases List.mem_append.mp hr with h | h
      · exact hR r h
      · simp only [List.mem_cons, List.not_mem_nil, or_false] at h
        rcases h with rfl | rfl | rfl
        · exact q0
        · exact q1
        · exact q2
    walk_at "ds"
    exact hK _ _ ⟨_, _, _, hR2, by simp only [List.length_append, List.length_cons, List.length_nil]; omega, by rw [List.length_append]; omega, rfl, updG_same, tb_upd t3 ep3, feed_upd f3 hap⟩
  · intro l hl
    simp only [List.mem_cons, List.not_mem_nil, or_false] at hl
    rcases hl with rfl | rfl
    · exact ⟨fun s hs => (nomatch hs), by decide⟩
    · exact ⟨fun s hs => by rw [List.mem_singleton] at hs; subst hs; exact sm_tick 3, by decide⟩
  rintro ρ G2 ⟨R0, x3, x4, hR0, hlen0, h20, rfl, ep0, tT, fa⟩
  refine ⟨trivial, ?_⟩
  rw [List.length_nil] at hlen0
  walk_at "ds"
  refine slR ep0 fun r hr => ?_
  obtain ⟨R, eR, hR, hlen, h2⟩ : ∃ R : List (List Sn), cutD (R0.map rowD) none (some 12) = R.map rowD ∧ (∀ l ∈ R, RwT l) ∧ R.length ≤ 14 ∧ 1 ≤ R.length := by
    unfold cutD
    rw [List.length_map, ← List.map_drop, ← List.map_take]
    refine ⟨_, rfl, fun l hl => hR0 l (List.mem_of_mem_drop (List.mem_of_mem_take hl)), by rw [List.length_take, List.length_drop]; omega, ?_⟩
    rw [List.length_take, List.length_drop]
    unfold HT.sIx
    show 1 ≤ min ((if (12 : Int) < 0 then ((12 : Int) + (R0.length : Nat)).toNat else min (12 : Int).toNat R0.length) - 0) (R0.length - 0)
    rw [if_neg (by decide)]
    have : (12 : Int).toNat = 12 := rfl
    omega
  rw [eR]
  have har : a ≠ r := fa.ne hr
  have er : (updG G2 r (.lst (R.map rowD))) r = some (.lst (R.map rowD)) := updG_same
  have tr : (updG G2 r (.lst (R.map rowD))) Tb = some (.tab qBr) := Grow.upd hr _ _ tT
  have fr : K03.FeedOk (updG G2 r (.lst (R.map rowD))) a := feed_upd fa har
  generalize updG G2 r (.lst (R.map rowD)) = G3 at er tr fr ⊢
  have hshw := rwt_shw hR (by omega)
  walk_at "ds"
  refine repr_i (by rw [vw_ref er]; exact hshw) ?_
  rw [vw_ref er]
  walk_at "ds"
  dsimp only
  rw [er]
  refine dForGo_of (I := fun rest ρ G' => ∃ (M : List (List Sn)) (x4 x6 : Option D), rest = M.map rowD ∧ (∀ l ∈ M, l ∈ R) ∧
      ρ = [some (.scr ns), some (.ref a), some (.ref r), x3, x4, some (.str (shD (.lst (R.map rowD)))), x6] ∧ G' r = some (.lst (R.map rowD)) ∧ G' Tb = some (.tab qBr) ∧ K03.FeedOk G' a) ?_ ?_ _ _ _
    ⟨R, x4, none, rfl, fun _ h => h, rfl, er, tr, fr⟩
  · rintro ρ G4 ⟨M, y4, y6, -, -, rfl, e4, t4, f4⟩
    refine ⟨e4, ?_⟩
    walk_at "ds"
    refine ⟨r, R, rfl, e4, hR, by omega, fun G5 g5 => ?_⟩
    walk_at "ds"
    refine repr_i (by rw [vw_ref (g5 _ _ e4)]; exact hshw) ?_
    rw [vw_ref (g5 _ _ e4)]
    refine eq_ss ?_
    rw [decide_eq_true rfl]
    exact hq _
  · rintro y rest ρ G4 ⟨M, y4, y6, hM, hin, rfl, e4, t4, f4⟩ K hK
    refine ⟨e4, ?_⟩
    cases M with
    | nil => cases hM
    | cons l M =>
      rw [List.map_cons] at hM
      injection hM with h1 h2
      subst h1; subst h2
      have hl := hR l (hin l (List.mem_cons_self ..))
      have ll := hl.ln
      walk_at "ds"
      refine ⟨_, ⟨l, rfl, by omega, rfl⟩, fun G5 g5 => ?_⟩
      walk_at "ds"
      unfold rowD
      refine len_t ?_
      rw [List.length_map]
      refine ne_ii ?_
      rw [decide_eq_true rfl]
      walk_at "ds"
      refine lcFtR l snD snD (fun _ => false) ?_ (by omega) ?_ ?_
      · intro P hP
        walk_at "ds"
        exact hP _ _ (fun _ _ => trivial) (Grow.refl _)
      · intro s hs
        refine ⟨_, rfl, fun G6 K hK => ?_, fun h => absurd h (by decide)⟩
        walk_at "ds"
        refine ⟨_, ⟨snD s, rfl, clean_sn s, rfl⟩, fun G7 g7 => ?_⟩
        rw [isSg_sn]
        exact hK _ g7
      intro G6 g6
      rw [show l.filter (fun _ => false) = [] from by simp]
      walk_at "ds"
      refine ne_nil ?_
      walk_at "ds"
      refine ⟨l, rfl, hl, fun G7 g7 => ?_⟩
      have g57 := (g5.trans g6).trans g7
      have e7 := g57 _ _ e4
      have f7 := f4.grow g57
      walk_at "ds"
      refine len_r e7 ?_
      rw [List.length_map]
      walk_at "ds"
      refine ⟨a, R.length, rfl, by omega, by omega, f7, fun t G8 c0 c1 f8 k8 => ?_⟩
      have e8 := k8 _ _ (Ne.symm har) e7
      have t8 := tb_keep (g57 _ _ t4) f7 k8
      obtain ⟨j, rfl⟩ : ∃ j : Nat, t = (j : Nat) := ⟨t.toNat, by omega⟩
      have hj : j < R.length := by omega
      walk_at "ds"
      refine rIx_i (d := rowD R[j]) (sqR e8) (Dl.atI_nat (by rw [List.getElem?_map, List.getElem?_eq_getElem hj]; rfl)) ?_
      walk_at "ds"
      refine ⟨l, R[j], rfl, hl, hR _ (List.getElem_mem hj), t8, fun G9 g9 => ?_⟩
      walk_at "ds"
      exact hK _ _ ⟨M, _, _, rfl, fun l hl => hin l (List.mem_cons_of_mem _ hl), rfl, g9 _ _ e8, g9 _ _ t8, f8.grow g9⟩
end K13

namespace K13
open PySem L2 Dl LamX
structure Tx (P : Program) (w : World) (K : PySem.W.Frag) (mg : Str → Option Value) : Prop where
  m_all : mg "all" = none
  m_bool : mg "bool" = none
  m_bytes : mg "bytes" = none
  m_enumerate : mg "enumerate" = none
  m_int : mg "int" = none
  m_isinstance : mg "isinstance" = none
  m_len : mg "len" = none
  m_list : mg "list" = none
  m_range : mg "range" = none
  m_repr : mg "repr" = none
  m_sorted : mg "sorted" = none
  m_str : mg "str" = none
  m_sum : mg "sum" = none
  m_tuple : mg "tuple" = none
  c_PLAIN_SIGNS : ∃ u, mg "PLAIN_SIGNS" = some u ∧ ∃ v, RelV v u ∧ ∀ G H, RepV K G H (.tup [(.str "tick"), (.str "more"), (.str "end")]) v
  c_NUMBER_SIGNS : ∃ u, mg "NUMBER_SIGNS" = some u ∧ ∃ v, RelV v u ∧ ∀ G H, RepV K G H (.tup [(.str "many"), (.str "way")]) v
  c_SIDES : ∃ u, mg "SIDES" = some u ∧ ∃ v, RelV v u ∧ ∀ G H, RepV K G H (.tup [(.str "left"), (.str "right")]) v
  c_BASE : ∃ u, mg "BASE" = some u ∧ ∃ v, RelV v u ∧ ∀ G H, RepV K G H (.int 256) v
  c_FIRST_NUMBER : ∃ u, mg "FIRST_NUMBER" = some u ∧ ∃ v, RelV v u ∧ ∀ G H, RepV K G H (.int 3) v
  c_FIRST_SIDE : ∃ u, mg "FIRST_SIDE" = some u ∧ ∃ v, RelV v u ∧ ∀ G H, RepV K G H (.int 5) v
  c_BEHIND_SIDES : ∃ u, mg "BEHIND_SIDES" = some u ∧ ∃ v, RelV v u ∧ ∀ G H, RepV K G H (.int 7) v
  c_MOST_SIDES : ∃ u, mg "MOST_SIDES" = some u ∧ ∃ v, RelV v u ∧ ∀ G H, RepV K G H (.int 29) v
  tdn : TdN K
  pc_ByteReader : Cls K (He.ga K "ByteReader")
  na_ByteReader_own_data : NoAttr K (He.ga K "ByteReader") "own_data"
  na_ByteReader_spot : NoAttr K (He.ga K "ByteReader") "spot"
  x_InvalidPaper : XClass P w K mg "InvalidPaper" ["word", "at"]
  x_NotUsable : XClass P w K mg "NotUsable" ["word", "at"]
  g_BarError : mg "BarError" = some (.ref (He.ga K "BarError"))
  g_InvalidPaper : mg "InvalidPaper" = some (.ref (He.ga K "InvalidPaper"))
  g_InvalidRow : mg "InvalidRow" = some (.ref (He.ga K "InvalidRow"))
  g_InvalidText : mg "InvalidText" = some (.ref (He.ga K "InvalidText"))
  g_LiveError : mg "LiveError" = some (.ref (He.ga K "LiveError"))
  g_NotNext : mg "NotNext" = some (.ref (He.ga K "NotNext"))
  g_NotUsable : mg "NotUsable" = some (.ref (He.ga K "NotUsable"))
  g_PaperError : mg "PaperError" = some (.ref (He.ga K "PaperError"))
  g_TextError : mg "TextError" = some (.ref (He.ga K "TextError"))
  g_WorkError : mg "WorkError" = some (.ref (He.ga K "WorkError"))
  et : ExT K CT
theorem hu70_of {A : Around} {k : Nat} (hr : Room k A) : A.units + 70 < cLine := by have := hr.un; omega
abbrev N_is_integer : List Str := ["thing"]
abbrev P_is_integer : List Str := ["thing"]

theorem sc_is_integer : FnScope N_is_integer P_is_integer (defScope s_is_integer) := ⟨rfl, rfl, rfl, by decide +kernel, rfl, by decide +kernel, by decide +kernel⟩

theorem b_is_integer {P : Program} {w : World} {K : PySem.W.Frag} {mg : Str → Option Value} {base : Heap} {k : Nat} {f : Addr} (T : Tx P w K mg)    (cdv : Value) (A : Around) (out : List Env) (st : Shared) (H : Hp) (E : XK)
    (hr : Room k (A.deeper (PyProof.Rows.envOfC "is_integer" (defScope s_is_integer) st.heap.objs.size f cdv))) (hgd : (A.deeper (PyProof.Rows.envOfC "is_integer" (defScope s_is_integer) st.heap.objs.size f cdv)).guards = some []) :
    DSs (cxOf CX0 P w K mg base N_is_integer "is_integer" (defScope s_is_integer) f cdv A out st H E).nox (defBody s_is_integer) (r_is_integer) := by
  have SC := sc_is_integer
  have hu := hu_of hr
  have hu64 := hr.units
  have hu70 := hu70_of hr
  exact (ds_one (ds_ret (de_and (de_isi (T := "int") (by decide) rfl T.m_isinstance rfl T.m_int (by decide +kernel) (dv 0)) (de_one (de_not (de_isi (T := "bool") (by decide) rfl T.m_isinstance rfl T.m_bool (by decide +kernel) (dv 0)))))))

theorem d_is_integer {P : Program} {w : World} {K : PySem.W.Frag} {mg : Str → Option Value} {base : Heap} {k : Nat} {f : Addr} {fd : FuncData} {sp : DSp} (T : Tx P w K mg)   
    (F : FunD K "is_integer" "is_integer" (defArgs s_is_integer) (defBody s_is_integer) (defScope s_is_integer) [] [] f fd) (len : ∀ ds G Q E, sp ds G Q E → ds.length = 1)
    (ok : ∀ ds G Q E, sp ds G Q E → (r_is_integer) { nx := fun _ G' => Q .non G', rt := Q } (startD 1 ds) G) : DFn P w K mg base (k + 1) f fd P_is_integer sp :=
  dfn_of F sc_is_integer len (b_is_integer T) ok

theorem k_is_integer {P : Program} {w : World} {K : PySem.W.Frag} {mg : Str → Option Value} {base : Heap} {k : Nat} {f : Addr} {fd : FuncData} {sp : DSp} (T : Tx P w K mg)   
    (F : FunD K "is_integer" "is_integer" (defArgs s_is_integer) (defBody s_is_integer) (defScope s_is_integer) [] [] f fd) (hm : mg "is_integer" = some (.ref f)) (len : ∀ ds G Q E, sp ds G Q E → ds.length = 1)
    (ok : ∀ ds G Q E, sp ds G Q E → (r_is_integer) { nx := fun _ G' => Q .non G', rt := Q } (startD 1 ds) G) : Callee P w K mg base (k + 1) "is_integer" P_is_integer sp :=
  callee_of F hm (d_is_integer T F len ok) (fun _ _ _ _ _ _ us hl => match us, hl with | [_], _ => rfl) (fun _ _ _ _ _ _ us hl => match us, hl with | [_], _ => rfl)

abbrev N_is_number : List Str := ["thing"]
abbrev P_is_number : List Str := ["thing"]

theorem sc_is_number : FnScope N_is_number P_is_number (defScope s_is_number) := ⟨rfl, rfl, rfl, by decide +kernel, rfl, by decide +kernel, by decide +kernel⟩

theorem b_is_number {P : Program} {w : World} {K : PySem.W.Frag} {mg : Str → Option Value} {base : Heap} {k : Nat} {f : Addr} (T : Tx P w K mg) {sp_is_integer : DSp} (C_is_integer : Callee P w K mg base k "is_integer" P_is_integer sp_is_integer)  (cdv : Value) (A : Around) (out : List Env) (st : Shared) (H : Hp) (E : XK)
    (hr : Room k (A.deeper (PyProof.Rows.envOfC "is_number" (defScope s_is_number) st.heap.objs.size f cdv))) (hgd : (A.deeper (PyProof.Rows.envOfC "is_number" (defScope s_is_number) st.heap.objs.size f cdv)).guards = some []) :
    DSs (cxOf CX0 P w K mg base N_is_number "is_number" (defScope s_is_number) f cdv A out st H E).nox (defBody s_is_number) (r_is_number sp_is_integer) := by
  have SC := sc_is_number
  have hu := hu_of hr
  have hu64 := hr.units
  have hu70 := hu70_of hr
  exact (ds_one (ds_ret (de_and (dc C_is_integer hr hgd rfl (da_cons (dv 0) da_nil)) (de_one (de_cmp o_ge (dv 0) de_int (nomark _))))))

theorem d_is_number {P : Program} {w : World} {K : PySem.W.Frag} {mg : Str → Option Value} {base : Heap} {k : Nat} {f : Addr} {fd : FuncData} {sp : DSp} (T : Tx P w K mg) {sp_is_integer : DSp} (C_is_integer : Callee P w K mg base k "is_integer" P_is_integer sp_is_integer) 
    (F : FunD K "is_number" "is_number" (defArgs s_is_number) (defBody s_is_number) (defScope s_is_number) [] [] f fd) (len : ∀ ds G Q E, sp ds G Q E → ds.length = 1)
    (ok : ∀ ds G Q E, sp ds G Q E → (r_is_number sp_is_integer) { nx := fun _ G' => Q .non G', rt := Q } (startD 1 ds) G) : DFn P w K mg base (k + 1) f fd P_is_number sp :=
  dfn_of F sc_is_number len (b_is_number T C_is_integer) ok

theorem k_is_number {P : Program} {w : World} {K : PySem.W.Frag} {mg : Str → Option Value} {base : Heap} {k : Nat} {f : Addr} {fd : FuncData} {sp : DSp} (T : Tx P w K mg) {sp_is_integer : DSp} (C_is_integer : Callee P w K mg base k "is_integer" P_is_integer sp_is_integer) 
    (F : FunD K "is_number" "is_number" (defArgs s_is_number) (defBody s_is_number) (defScope s_is_number) [] [] f fd) (hm : mg "is_number" = some (.ref f)) (len : ∀ ds G Q E, sp ds G Q E → ds.length = 1)
    (ok : ∀ ds G Q E, sp ds G Q E → (r_is_number sp_is_integer) { nx := fun _ G' => Q .non G', rt := Q } (startD 1 ds) G) : Callee P w K mg base (k + 1) "is_number" P_is_number sp :=
  callee_of F hm (d_is_number T C_is_integer F len ok) (fun _ _ _ _ _ _ us hl => match us, hl with | [_], _ => rfl) (fun _ _ _ _ _ _ us hl => match us, hl with | [_], _ => rfl)

abbrev N_is_sided : List Str := ["thing"]
abbrev P_is_sided : List Str := ["thing"]

theorem sc_is_sided : FnScope N_is_sided P_is_sided (defScope s_is_sided) := ⟨rfl, rfl, rfl, by decide +kernel, rfl, by decide +kernel, by decide +kernel⟩

theorem b_is_sided {P : Program} {w : World} {K : PySem.W.Frag} {mg : Str → Option Value} {base : Heap} {k : Nat} {f : Addr} (T : Tx P w K mg)    (cdv : Value) (A : Around) (out : List Env) (st : Shared) (H : Hp) (E : XK)
    (hr : Room k (A.deeper (PyProof.Rows.envOfC "is_sided" (defScope s_is_sided) st.heap.objs.size f cdv))) (hgd : (A.deeper (PyProof.Rows.envOfC "is_sided" (defScope s_is_sided) st.heap.objs.size f cdv)).guards = some []) :
    DSs (cxOf CX0 P w K mg base N_is_sided "is_sided" (defScope s_is_sided) f cdv A out st H E).nox (defBody s_is_sided) (r_is_sided) := by
  have SC := sc_is_sided
  have hu := hu_of hr
  have hu64 := hr.units
  have hu70 := hu70_of hr
  exact (ds_one (ds_ret (de_and (de_isi (T := "tuple") (by decide) rfl T.m_isinstance rfl T.m_tuple (by decide +kernel) (dv 0)) (de_and (de_cmp (o_eq hu64) (de_callB c_len rfl T.m_len PySem.boot_len (da_cons (dv 0) da_nil)) de_int (nomark _)) (de_and (de_isi (T := "str") (by decide) rfl T.m_isinstance rfl T.m_str (by decide +kernel) (de_ix (dv 0) de_int)) (de_one (de_cmp o_in (de_ix (dv 0) de_int) (de_glob rfl T.c_SIDES) rfl)))))))

theorem d_is_sided {P : Program} {w : World} {K : PySem.W.Frag} {mg : Str → Option Value} {base : Heap} {k : Nat} {f : Addr} {fd : FuncData} {sp : DSp} (T : Tx P w K mg)   
    (F : FunD K "is_sided" "is_sided" (defArgs s_is_sided) (defBody s_is_sided) (defScope s_is_sided) [] [] f fd) (len : ∀ ds G Q E, sp ds G Q E → ds.length = 1)
    (ok : ∀ ds G Q E, sp ds G Q E → (r_is_sided) { nx := fun _ G' => Q .non G', rt := Q } (startD 1 ds) G) : DFn P w K mg base (k + 1) f fd P_is_sided sp :=
  dfn_of F sc_is_sided len (b_is_sided T) ok

theorem k_is_sided {P : Program} {w : World} {K : PySem.W.Frag} {mg : Str → Option Value} {base : Heap} {k : Nat} {f : Addr} {fd : FuncData} {sp : DSp} (T : Tx P w K mg)   
    (F : FunD K "is_sided" "is_sided" (defArgs s_is_sided) (defBody s_is_sided) (defScope s_is_sided) [] [] f fd) (hm : mg "is_sided" = some (.ref f)) (len : ∀ ds G Q E, sp ds G Q E → ds.length = 1)
    (ok : ∀ ds G Q E, sp ds G Q E → (r_is_sided) { nx := fun _ G' => Q .non G', rt := Q } (startD 1 ds) G) : Callee P w K mg base (k + 1) "is_sided" P_is_sided sp :=
  callee_of F hm (d_is_sided T F len ok) (fun _ _ _ _ _ _ us hl => match us, hl with | [_], _ => rfl) (fun _ _ _ _ _ _ us hl => match us, hl with | [_], _ => rfl)

abbrev N_is_sign : List Str := ["thing"]
abbrev P_is_sign : List Str := ["thing"]

theorem sc_is_sign : FnScope N_is_sign P_is_sign (defScope s_is_sign) := ⟨rfl, rfl, rfl, by decide +kernel, rfl, by decide +kernel, by decide +kernel⟩

theorem b_is_sign {P : Program} {w : World} {K : PySem.W.Frag} {mg : Str → Option Value} {base : Heap} {k : Nat} {f : Addr} (T : Tx P w K mg) {sp_is_number : DSp} {sp_is_sided : DSp} (C_is_number : Callee P w K mg base k "is_number" P_is_number sp_is_number) (C_is_sided : Callee P w K mg base k "is_sided" P_is_sided sp_is_sided)  (cdv : Value) (A : Around) (out : List Env) (st : Shared) (H : Hp) (E : XK)
    (hr : Room k (A.deeper (PyProof.Rows.envOfC "is_sign" (defScope s_is_sign) st.heap.objs.size f cdv))) (hgd : (A.deeper (PyProof.Rows.envOfC "is_sign" (defScope s_is_sign) st.heap.objs.size f cdv)).guards = some []) :
    DSs (cxOf CX0 P w K mg base N_is_sign "is_sign" (defScope s_is_sign) f cdv A out st H E).nox (defBody s_is_sign) (r_is_sign sp_is_number sp_is_sided) := by
  have SC := sc_is_sign
  have hu := hu_of hr
  have hu64 := hr.units
  have hu70 := hu70_of hr
  exact (ds_cons (ds_while PassesOwn.never (dt_tru (dc C_is_sided hr hgd rfl (da_cons (dv 0) da_nil)))
  (ds_one (ds_set (i := 0) SC.nd rfl (by first | exact Or.inl rfl | exact Or.inr rfl) (de_ix (dv 0) de_int))))
  (ds_cons (ds_if (dt_tru (de_isi (T := "str") (by decide) rfl T.m_isinstance rfl T.m_str (by decide +kernel) (dv 0)))
  (ds_one (ds_ret (de_cmp o_in (dv 0) (de_glob rfl T.c_PLAIN_SIGNS) rfl)))
  ds_nil)
  (ds_cons (ds_if (dt_w (dw_or (dt_not (dt_tru (de_isi (T := "tuple") (by decide) rfl T.m_isinstance rfl T.m_tuple (by decide +kernel) (dv 0)))) (dw_or (dt_cmp (o_ne hu64) (de_callB c_len rfl T.m_len PySem.boot_len (da_cons (dv 0) da_nil)) de_int (nomark _)) (dw_or1 (dt_not (dt_tru (de_isi (T := "str") (by decide) rfl T.m_isinstance rfl T.m_str (by decide +kernel) (de_ix (dv 0) de_int))))))))
  (ds_one (ds_ret de_bl))
  ds_nil)
  (ds_one (ds_ret (de_and (de_cmp o_in (de_ix (dv 0) de_int) (de_glob rfl T.c_NUMBER_SIGNS) rfl) (de_one (dc C_is_number hr hgd rfl (da_cons (de_ix (dv 0) de_int) da_nil)))))))))

theorem d_is_sign {P : Program} {w : World} {K : PySem.W.Frag} {mg : Str → Option Value} {base : Heap} {k : Nat} {f : Addr} {fd : FuncData} {sp : DSp} (T : Tx P w K mg) {sp_is_number : DSp} {sp_is_sided : DSp} (C_is_number : Callee P w K mg base k "is_number" P_is_number sp_is_number) (C_is_sided : Callee P w K mg base k "is_sided" P_is_sided sp_is_sided) 
    (F : FunD K "is_sign" "is_sign" (defArgs s_is_sign) (defBody s_is_sign) (defScope s_is_sign) [] [] f fd) (len : ∀ ds G Q E, sp ds G Q E → ds.length = 1)
    (ok : ∀ ds G Q E, sp ds G Q E → (r_is_sign sp_is_number sp_is_sided) { nx := fun _ G' => Q .non G', rt := Q } (startD 1 ds) G) : DFn P w K mg base (k + 1) f fd P_is_sign sp :=
  dfn_of F sc_is_sign len (b_is_sign T C_is_number C_is_sided) ok

theorem k_is_sign {P : Program} {w : World} {K : PySem.W.Frag} {mg : Str → Option Value} {base : Heap} {k : Nat} {f : Addr} {fd : FuncData} {sp : DSp} (T : Tx P w K mg) {sp_is_number : DSp} {sp_is_sided : DSp} (C_is_number : Callee P w K mg base k "is_number" P_is_number sp_is_number) (C_is_sided : Callee P w K mg base k "is_sided" P_is_sided sp_is_sided) 
    (F : FunD K "is_sign" "is_sign" (defArgs s_is_sign) (defBody s_is_sign) (defScope s_is_sign) [] [] f fd) (hm : mg "is_sign" = some (.ref f)) (len : ∀ ds G Q E, sp ds G Q E → ds.length = 1)
    (ok : ∀ ds G Q E, sp ds G Q E → (r_is_sign sp_is_number sp_is_sided) { nx := fun _ G' => Q .non G', rt := Q } (startD 1 ds) G) : Callee P w K mg base (k + 1) "is_sign" P_is_sign sp :=
  callee_of F hm (d_is_sign T C_is_number C_is_sided F len ok) (fun _ _ _ _ _ _ us hl => match us, hl with | [_], _ => rfl) (fun _ _ _ _ _ _ us hl => match us, hl with | [_], _ => rfl)

abbrev N_is_signs : List Str := ["thing", "one"]
abbrev P_is_signs : List Str := ["thing"]

theorem sc_is_signs : FnScope N_is_signs P_is_signs (defScope s_is_signs) := ⟨rfl, rfl, rfl, by decide +kernel, rfl, by decide +kernel, by decide +kernel⟩

theorem b_is_signs {P : Program} {w : World} {K : PySem.W.Frag} {mg : Str → Option Value} {base : Heap} {k : Nat} {f : Addr} (T : Tx P w K mg) {sp_is_sign : DSp} (C_is_sign : Callee P w K mg base k "is_sign" P_is_sign sp_is_sign)  (cdv : Value) (A : Around) (out : List Env) (st : Shared) (H : Hp) (E : XK)
    (hr : Room k (A.deeper (PyProof.Rows.envOfC "is_signs" (defScope s_is_signs) st.heap.objs.size f cdv))) (hgd : (A.deeper (PyProof.Rows.envOfC "is_signs" (defScope s_is_signs) st.heap.objs.size f cdv)).guards = some []) :
    DSs (cxOf CX0 P w K mg base N_is_signs "is_signs" (defScope s_is_signs) f cdv A out st H E).nox (defBody s_is_signs) (r_is_signs sp_is_sign) := by
  have SC := sc_is_signs
  have hu := hu_of hr
  have hu64 := hr.units
  have hu70 := hu70_of hr
  exact (ds_one (ds_ret (de_and (de_isi (T := "tuple") (by decide) rfl T.m_isinstance rfl T.m_tuple (by decide +kernel) (dv 0)) (de_one (de_callB (c_all rfl) rfl T.m_all (by decide +kernel) (da_cons (de_frz (de_lc (own := [("one", 1)]) (ct := (.one 1)) rfl SC.nd (di_seq (dv 0)) (blkOk_by (by show blkC N_is_signs (defScope s_is_signs) _ _ = true; decide +kernel)) (by decide) (fun _ _ _ _ _ => pg_name (i := 1) SC.nd rfl (Or.inl rfl)) (fun _ _ _ _ _ => dts_nil) (fun _ _ _ _ _ => (dc C_is_sign hr hgd rfl (da_cons (dv 1) da_nil))))) da_nil))))))

theorem d_is_signs {P : Program} {w : World} {K : PySem.W.Frag} {mg : Str → Option Value} {base : Heap} {k : Nat} {f : Addr} {fd : FuncData} {sp : DSp} (T : Tx P w K mg) {sp_is_sign : DSp} (C_is_sign : Callee P w K mg base k "is_sign" P_is_sign sp_is_sign) 
    (F : FunD K "is_signs" "is_signs" (defArgs s_is_signs) (defBody s_is_signs) (defScope s_is_signs) [] [] f fd) (len : ∀ ds G Q E, sp ds G Q E → ds.length = 1)
    (ok : ∀ ds G Q E, sp ds G Q E → (r_is_signs sp_is_sign) { nx := fun _ G' => Q .non G', rt := Q } (startD 2 ds) G) : DFn P w K mg base (k + 1) f fd P_is_signs sp :=
  dfn_of F sc_is_signs len (b_is_signs T C_is_sign) ok

theorem k_is_signs {P : Program} {w : World} {K : PySem.W.Frag} {mg : Str → Option Value} {base : Heap} {k : Nat} {f : Addr} {fd : FuncData} {sp : DSp} (T : Tx P w K mg) {sp_is_sign : DSp} (C_is_sign : Callee P w K mg base k "is_sign" P_is_sign sp_is_sign) 
    (F : FunD K "is_signs" "is_signs" (defArgs s_is_signs) (defBody s_is_signs) (defScope s_is_signs) [] [] f fd) (hm : mg "is_signs" = some (.ref f)) (len : ∀ ds G Q E, sp ds G Q E → ds.length = 1)
    (ok : ∀ ds G Q E, sp ds G Q E → (r_is_signs sp_is_sign) { nx := fun _ G' => Q .non G', rt := Q } (startD 2 ds) G) : Callee P w K mg base (k + 1) "is_signs" P_is_signs sp :=
  callee_of F hm (d_is_signs T C_is_sign F len ok) (fun _ _ _ _ _ _ us hl => match us, hl with | [_], _ => rfl) (fun _ _ _ _ _ _ us hl => match us, hl with | [_], _ => rfl)

abbrev N_require_usable : List Str := ["truth", "word", "at"]
abbrev P_require_usable : List Str := ["truth", "word", "at"]

theorem sc_require_usable : FnScope N_require_usable P_require_usable (defScope s_require_usable) := ⟨rfl, rfl, rfl, by decide +kernel, rfl, by decide +kernel, by decide +kernel⟩

theorem b_require_usable {P : Program} {w : World} {K : PySem.W.Frag} {mg : Str → Option Value} {base : Heap} {k : Nat} {f : Addr} (T : Tx P w K mg)         (hk2 : 2 ≤ k) (cdv : Value) (A : Around) (out : List Env) (st : Shared) (H : Hp) (E : XK)
    (hr : Room k (A.deeper (PyProof.Rows.envOfC "require_usable" (defScope s_require_usable) st.heap.objs.size f cdv))) (hgd : (A.deeper (PyProof.Rows.envOfC "require_usable" (defScope s_require_usable) st.heap.objs.size f cdv)).guards = some []) (tk : Takes (cxOf (L2.CX P w) P w K mg base N_require_usable "require_usable" (defScope s_require_usable) f cdv A out st H E) (fun c d _ H' => E c d H')) (hpo : PassesOwn (model P w) (A.deeper (PyProof.Rows.envOfC "require_usable" (defScope s_require_usable) st.heap.objs.size f cdv)) (PyProof.Rows.envOfC "require_usable" (defScope s_require_usable) st.heap.objs.size f cdv) (cxOf (L2.CX P w) P w K mg base N_require_usable "require_usable" (defScope s_require_usable) f cdv A out st H E).xe) :
    XSs (cxOf (L2.CX P w) P w K mg base N_require_usable "require_usable" (defScope s_require_usable) f cdv A out st H E) (fun c d _ H' => E c d H') (defBody s_require_usable) (r_require_usable) := by
  have SC := sc_require_usable
  have hu := hu_of hr
  have hu64 := hr.units
  have hu70 := hu70_of hr
  exact (xs_one (xs_if (xt_p (dt_not (dt_tru (dv 0))))
  (xs_one (xs_raise T.x_NotUsable rfl tk (hr.mono hk2) rfl (xa_p (da_cons (dv 1) (da_cons (dv 2) da_nil)))))
  (xss_p ds_nil)))

theorem d_require_usable {P : Program} {w : World} {K : PySem.W.Frag} {mg : Str → Option Value} {base : Heap} {k : Nat} {f : Addr} {fd : FuncData} {sp : DSp} (T : Tx P w K mg)         (hk2 : 2 ≤ k)
    (F : FunD K "require_usable" "require_usable" (defArgs s_require_usable) (defBody s_require_usable) (defScope s_require_usable) [] [] f fd) (len : ∀ ds G Q E, sp ds G Q E → ds.length = 3)
    (ok : ∀ ds G Q E, sp ds G Q E → (r_require_usable) (fun x _ G' => E x G') { nx := fun _ G' => Q .non G', rt := Q } (startD 3 ds) G) : XFn P w K mg base (k + 1) f fd P_require_usable sp :=
  xfn_of F sc_require_usable len (b_require_usable T hk2) ok

theorem k_require_usable {P : Program} {w : World} {K : PySem.W.Frag} {mg : Str → Option Value} {base : Heap} {k : Nat} {f : Addr} {fd : FuncData} {sp : DSp} (T : Tx P w K mg)         (hk2 : 2 ≤ k)
    (F : FunD K "require_usable" "require_usable" (defArgs s_require_usable) (defBody s_require_usable) (defScope s_require_usable) [] [] f fd) (hm : mg "require_usable" = some (.ref f)) (len : ∀ ds G Q E, sp ds G Q E → ds.length = 3)
    (ok : ∀ ds G Q E, sp ds G Q E → (r_require_usable) (fun x _ G' => E x G') { nx := fun _ G' => Q .non G', rt := Q } (startD 3 ds) G) : XCallee P w K mg base (k + 1) "require_usable" P_require_usable sp :=
  xcallee_of F hm (d_require_usable T hk2 F len ok) (fun _ _ _ _ _ _ us hl => match us, hl with | [_, _, _], _ => rfl) (fun _ _ _ _ _ _ us hl => match us, hl with | [_, _, _], _ => rfl)

abbrev N_sign_rank : List Str := ["sign", "found", "rest"]
abbrev P_sign_rank : List Str := ["sign"]

theorem sc_sign_rank : FnScope N_sign_rank P_sign_rank (defScope s_sign_rank) := ⟨rfl, rfl, rfl, by decide +kernel, rfl, by decide +kernel, by decide +kernel⟩

theorem b_sign_rank {P : Program} {w : World} {K : PySem.W.Frag} {mg : Str → Option Value} {base : Heap} {k : Nat} {f : Addr} (T : Tx P w K mg) {sp_is_sided : DSp} (C_is_sided : Callee P w K mg base k "is_sided" P_is_sided sp_is_sided)  (cdv : Value) (A : Around) (out : List Env) (st : Shared) (H : Hp) (E : XK)
    (hr : Room k (A.deeper (PyProof.Rows.envOfC "sign_rank" (defScope s_sign_rank) st.heap.objs.size f cdv))) (hgd : (A.deeper (PyProof.Rows.envOfC "sign_rank" (defScope s_sign_rank) st.heap.objs.size f cdv)).guards = some []) :
    DSs (cxOf CX0 P w K mg base N_sign_rank "sign_rank" (defScope s_sign_rank) f cdv A out st H E).nox (defBody s_sign_rank) (r_sign_rank sp_is_sided) := by
  have SC := sc_sign_rank
  have hu := hu_of hr
  have hu64 := hr.units
  have hu70 := hu70_of hr
  exact (ds_cons (ds_set (i := 1) SC.nd rfl (by first | exact Or.inl rfl | exact Or.inr rfl) (de_lst da_nil))
  (ds_cons (ds_set (i := 2) SC.nd rfl (by first | exact Or.inl rfl | exact Or.inr rfl) (dv 0))
  (ds_cons (ds_while PassesOwn.never (dt_tru (dc C_is_sided hr hgd rfl (da_cons (dv 2) da_nil)))
  (ds_cons (ds_expr (de_append (dv 1) (de_op o_add (de_op o_add (de_callB c_len rfl T.m_len PySem.boot_len (da_cons (de_glob rfl T.c_PLAIN_SIGNS) da_nil)) (de_callB c_len rfl T.m_len PySem.boot_len (da_cons (de_glob rfl T.c_NUMBER_SIGNS) da_nil))) (de_idxT T.tdn rfl T.c_SIDES (de_ix (dv 2) de_int)))))
  (ds_one (ds_set (i := 2) SC.nd rfl (by first | exact Or.inl rfl | exact Or.inr rfl) (de_ix (dv 2) de_int)))))
  (ds_cons (ds_if (dt_tru (de_isi (T := "str") (by decide) rfl T.m_isinstance rfl T.m_str (by decide +kernel) (dv 2)))
  (ds_one (ds_ret (de_tup (da_star (dv 1) (da_cons (de_idxT T.tdn rfl T.c_PLAIN_SIGNS (dv 2)) da_nil)))))
  ds_nil)
  (ds_one (ds_ret (de_tup (da_star (dv 1) (da_cons (de_op o_add (de_callB c_len rfl T.m_len PySem.boot_len (da_cons (de_glob rfl T.c_PLAIN_SIGNS) da_nil)) (de_idxT T.tdn rfl T.c_NUMBER_SIGNS (de_ix (dv 2) de_int))) (da_cons (de_ix (dv 2) de_int) da_nil))))))))))

theorem d_sign_rank {P : Program} {w : World} {K : PySem.W.Frag} {mg : Str → Option Value} {base : Heap} {k : Nat} {f : Addr} {fd : FuncData} {sp : DSp} (T : Tx P w K mg) {sp_is_sided : DSp} (C_is_sided : Callee P w K mg base k "is_sided" P_is_sided sp_is_sided) 
    (F : FunD K "sign_rank" "sign_rank" (defArgs s_sign_rank) (defBody s_sign_rank) (defScope s_sign_rank) [] [] f fd) (len : ∀ ds G Q E, sp ds G Q E → ds.length = 1)
    (ok : ∀ ds G Q E, sp ds G Q E → (r_sign_rank sp_is_sided) { nx := fun _ G' => Q .non G', rt := Q } (startD 3 ds) G) : DFn P w K mg base (k + 1) f fd P_sign_rank sp :=
  dfn_of F sc_sign_rank len (b_sign_rank T C_is_sided) ok

theorem k_sign_rank {P : Program} {w : World} {K : PySem.W.Frag} {mg : Str → Option Value} {base : Heap} {k : Nat} {f : Addr} {fd : FuncData} {sp : DSp} (T : Tx P w K mg) {sp_is_sided : DSp} (C_is_sided : Callee P w K mg base k "is_sided" P_is_sided sp_is_sided) 
    (F : FunD K "sign_rank" "sign_rank" (defArgs s_sign_rank) (defBody s_sign_rank) (defScope s_sign_rank) [] [] f fd) (hm : mg "sign_rank" = some (.ref f)) (len : ∀ ds G Q E, sp ds G Q E → ds.length = 1)
    (ok : ∀ ds G Q E, sp ds G Q E → (r_sign_rank sp_is_sided) { nx := fun _ G' => Q .non G', rt := Q } (startD 3 ds) G) : Callee P w K mg base (k + 1) "sign_rank" P_sign_rank sp :=
  callee_of F hm (d_sign_rank T C_is_sided F len ok) (fun _ _ _ _ _ _ us hl => match us, hl with | [_], _ => rfl) (fun _ _ _ _ _ _ us hl => match us, hl with | [_], _ => rfl)

abbrev N_signs_rank : List Str := ["signs", "sign"]
abbrev P_signs_rank : List Str := ["signs"]

theorem sc_signs_rank : FnScope N_signs_rank P_signs_rank (defScope s_signs_rank) := ⟨rfl, rfl, rfl, by decide +kernel, rfl, by decide +kernel, by decide +kernel⟩

theorem b_signs_rank {P : Program} {w : World} {K : PySem.W.Frag} {mg : Str → Option Value} {base : Heap} {k : Nat} {f : Addr} (T : Tx P w K mg) {sp_sign_rank : DSp} (C_sign_rank : Callee P w K mg base k "sign_rank" P_sign_rank sp_sign_rank)  (cdv : Value) (A : Around) (out : List Env) (st : Shared) (H : Hp) (E : XK)
    (hr : Room k (A.deeper (PyProof.Rows.envOfC "signs_rank" (defScope s_signs_rank) st.heap.objs.size f cdv))) (hgd : (A.deeper (PyProof.Rows.envOfC "signs_rank" (defScope s_signs_rank) st.heap.objs.size f cdv)).guards = some []) :
    DSs (cxOf CX0 P w K mg base N_signs_rank "signs_rank" (defScope s_signs_rank) f cdv A out st H E).nox (defBody s_signs_rank) (r_signs_rank sp_sign_rank) := by
  have SC := sc_signs_rank
  have hu := hu_of hr
  have hu64 := hr.units
  have hu70 := hu70_of hr
  exact (ds_one (ds_ret (de_callTy c_tuple rfl T.m_tuple (by decide +kernel) (da_cons (de_frz (de_lc (own := [("sign", 1)]) (ct := (.one 1)) rfl SC.nd (di_seq (dv 0)) (blkOk_by (by show blkC N_signs_rank (defScope s_signs_rank) _ _ = true; decide +kernel)) (by decide) (fun _ _ _ _ _ => pg_name (i := 1) SC.nd rfl (Or.inl rfl)) (fun _ _ _ _ _ => dts_nil) (fun _ _ _ _ _ => (dc C_sign_rank hr hgd rfl (da_cons (dv 1) da_nil))))) da_nil))))

theorem d_signs_rank {P : Program} {w : World} {K : PySem.W.Frag} {mg : Str → Option Value} {base : Heap} {k : Nat} {f : Addr} {fd : FuncData} {sp : DSp} (T : Tx P w K mg) {sp_sign_rank : DSp} (C_sign_rank : Callee P w K mg base k "sign_rank" P_sign_rank sp_sign_rank) 
    (F : FunD K "signs_rank" "signs_rank" (defArgs s_signs_rank) (defBody s_signs_rank) (defScope s_signs_rank) [] [] f fd) (len : ∀ ds G Q E, sp ds G Q E → ds.length = 1)
    (ok : ∀ ds G Q E, sp ds G Q E → (r_signs_rank sp_sign_rank) { nx := fun _ G' => Q .non G', rt := Q } (startD 2 ds) G) : DFn P w K mg base (k + 1) f fd P_signs_rank sp :=
  dfn_of F sc_signs_rank len (b_signs_rank T C_sign_rank) ok

theorem k_signs_rank {P : Program} {w : World} {K : PySem.W.Frag} {mg : Str → Option Value} {base : Heap} {k : Nat} {f : Addr} {fd : FuncData} {sp : DSp} (T : Tx P w K mg) {sp_sign_rank : DSp} (C_sign_rank : Callee P w K mg base k "sign_rank" P_sign_rank sp_sign_rank) 
    (F : FunD K "signs_rank" "signs_rank" (defArgs s_signs_rank) (defBody s_signs_rank) (defScope s_signs_rank) [] [] f fd) (hm : mg "signs_rank" = some (.ref f)) (len : ∀ ds G Q E, sp ds G Q E → ds.length = 1)
    (ok : ∀ ds G Q E, sp ds G Q E → (r_signs_rank sp_sign_rank) { nx := fun _ G' => Q .non G', rt := Q } (startD 2 ds) G) : Callee P w K mg base (k + 1) "signs_rank" P_signs_rank sp :=
  callee_of F hm (d_signs_rank T C_sign_rank F len ok) (fun _ _ _ _ _ _ us hl => match us, hl with | [_], _ => rfl) (fun _ _ _ _ _ _ us hl => match us, hl with | [_], _ => rfl)

abbrev N_in_sign_order : List Str := ["signs", "ranked", "sign", "rank"]
abbrev P_in_sign_order : List Str := ["signs"]

theorem sc_in_sign_order : FnScope N_in_sign_order P_in_sign_order (defScope s_in_sign_order) := ⟨rfl, rfl, rfl, by decide +kernel, rfl, by decide +kernel, by decide +kernel⟩

theorem b_in_sign_order {P : Program} {w : World} {K : PySem.W.Frag} {mg : Str → Option Value} {base : Heap} {k : Nat} {f : Addr} (T : Tx P w K mg) {sp_sign_rank : DSp} (C_sign_rank : Callee P w K mg base k "sign_rank" P_sign_rank sp_sign_rank)  (cdv : Value) (A : Around) (out : List Env) (st : Shared) (H : Hp) (E : XK)
    (hr : Room k (A.deeper (PyProof.Rows.envOfC "in_sign_order" (defScope s_in_sign_order) st.heap.objs.size f cdv))) (hgd : (A.deeper (PyProof.Rows.envOfC "in_sign_order" (defScope s_in_sign_order) st.heap.objs.size f cdv)).guards = some []) :
    DSs (cxOf CX0 P w K mg base N_in_sign_order "in_sign_order" (defScope s_in_sign_order) f cdv A out st H E).nox (defBody s_in_sign_order) (r_in_sign_order sp_sign_rank) := by
  have SC := sc_in_sign_order
  have hu := hu_of hr
  have hu64 := hr.units
  have hu70 := hu70_of hr
  exact (ds_cons (ds_set (i := 1) SC.nd rfl (by first | exact Or.inl rfl | exact Or.inr rfl) (de_frz (de_callB (c_sortT hu70) rfl T.m_sorted (by decide +kernel) (da_cons (de_frz (de_lc (own := [("sign", 2)]) (ct := (.one 2)) rfl SC.nd (di_seq (dv 0)) (blkOk_by (by show blkC N_in_sign_order (defScope s_in_sign_order) _ _ = true; decide +kernel)) (by decide) (fun _ _ _ _ _ => pg_name (i := 2) SC.nd rfl (Or.inl rfl)) (fun _ _ _ _ _ => dts_nil) (fun _ _ _ _ _ => (de_tup (da_cons (dc C_sign_rank hr hgd rfl (da_cons (dv 2) da_nil)) (da_cons (dv 2) da_nil)))))) da_nil))))
  (ds_one (ds_ret (de_callTy c_tuple rfl T.m_tuple (by decide +kernel) (da_cons (de_frz (de_lc (own := [("rank", 3), ("sign", 2)]) (ct := (.tup [3, 2])) rfl SC.nd (di_seq (dv 1)) (blkOk_by (by show blkC N_in_sign_order (defScope s_in_sign_order) _ _ = true; decide +kernel)) (by decide) (fun _ _ _ _ _ => pg_tup rfl (pgs_cons (pg_name (i := 3) SC.nd rfl (Or.inl rfl)) (pgs_cons (pg_name (i := 2) SC.nd rfl (Or.inl rfl)) pgs_nil))) (fun _ _ _ _ _ => dts_nil) (fun _ _ _ _ _ => (dv 2)))) da_nil)))))

theorem d_in_sign_order {P : Program} {w : World} {K : PySem.W.Frag} {mg : Str → Option Value} {base : Heap} {k : Nat} {f : Addr} {fd : FuncData} {sp : DSp} (T : Tx P w K mg) {sp_sign_rank : DSp} (C_sign_rank : Callee P w K mg base k "sign_rank" P_sign_rank sp_sign_rank) 
    (F : FunD K "in_sign_order" "in_sign_order" (defArgs s_in_sign_order) (defBody s_in_sign_order) (defScope s_in_sign_order) [] [] f fd) (len : ∀ ds G Q E, sp ds G Q E → ds.length = 1)
    (ok : ∀ ds G Q E, sp ds G Q E → (r_in_sign_order sp_sign_rank) { nx := fun _ G' => Q .non G', rt := Q } (startD 4 ds) G) : DFn P w K mg base (k + 1) f fd P_in_sign_order sp :=
  dfn_of F sc_in_sign_order len (b_in_sign_order T C_sign_rank) ok

theorem k_in_sign_order {P : Program} {w : World} {K : PySem.W.Frag} {mg : Str → Option Value} {base : Heap} {k : Nat} {f : Addr} {fd : FuncData} {sp : DSp} (T : Tx P w K mg) {sp_sign_rank : DSp} (C_sign_rank : Callee P w K mg base k "sign_rank" P_sign_rank sp_sign_rank) 
    (F : FunD K "in_sign_order" "in_sign_order" (defArgs s_in_sign_order) (defBody s_in_sign_order) (defScope s_in_sign_order) [] [] f fd) (hm : mg "in_sign_order" = some (.ref f)) (len : ∀ ds G Q E, sp ds G Q E → ds.length = 1)
    (ok : ∀ ds G Q E, sp ds G Q E → (r_in_sign_order sp_sign_rank) { nx := fun _ G' => Q .non G', rt := Q } (startD 4 ds) G) : Callee P w K mg base (k + 1) "in_sign_order" P_in_sign_order sp :=
  callee_of F hm (d_in_sign_order T C_sign_rank F len ok) (fun _ _ _ _ _ _ us hl => match us, hl with | [_], _ => rfl) (fun _ _ _ _ _ _ us hl => match us, hl with | [_], _ => rfl)

abbrev N_sorted_signs : List Str := ["signs", "sign"]
abbrev P_sorted_signs : List Str := ["signs"]

theorem sc_sorted_signs : FnScope N_sorted_signs P_sorted_signs (defScope s_sorted_signs) := ⟨rfl, rfl, rfl, by decide +kernel, rfl, by decide +kernel, by decide +kernel⟩

theorem b_sorted_signs {P : Program} {w : World} {K : PySem.W.Frag} {mg : Str → Option Value} {base : Heap} {k : Nat} {f : Addr} (T : Tx P w K mg) {sp_in_sign_order : DSp} {sp_is_signs : DSp} {sx_require_usable : DSp} (C_in_sign_order : Callee P w K mg base k "in_sign_order" P_in_sign_order sp_in_sign_order) (C_is_signs : Callee P w K mg base k "is_signs" P_is_signs sp_is_signs)  (X_require_usable : XCallee P w K mg base k "require_usable" P_require_usable sx_require_usable)    (cdv : Value) (A : Around) (out : List Env) (st : Shared) (H : Hp) (E : XK)
    (hr : Room k (A.deeper (PyProof.Rows.envOfC "sorted_signs" (defScope s_sorted_signs) st.heap.objs.size f cdv))) (hgd : (A.deeper (PyProof.Rows.envOfC "sorted_signs" (defScope s_sorted_signs) st.heap.objs.size f cdv)).guards = some []) (tk : Takes (cxOf (L2.CX P w) P w K mg base N_sorted_signs "sorted_signs" (defScope s_sorted_signs) f cdv A out st H E) (fun c d _ H' => E c d H')) (hpo : PassesOwn (model P w) (A.deeper (PyProof.Rows.envOfC "sorted_signs" (defScope s_sorted_signs) st.heap.objs.size f cdv)) (PyProof.Rows.envOfC "sorted_signs" (defScope s_sorted_signs) st.heap.objs.size f cdv) (cxOf (L2.CX P w) P w K mg base N_sorted_signs "sorted_signs" (defScope s_sorted_signs) f cdv A out st H E).xe) :
    XSs (cxOf (L2.CX P w) P w K mg base N_sorted_signs "sorted_signs" (defScope s_sorted_signs) f cdv A out st H E) (fun c d _ H' => E c d H') (defBody s_sorted_signs) (r_sorted_signs sp_in_sign_order sp_is_signs sx_require_usable) := by
  have SC := sc_sorted_signs
  have hu := hu_of hr
  have hu64 := hr.units
  have hu70 := hu70_of hr
  exact (xs_cons (xs_expr (xc X_require_usable tk hr hgd rfl (xa_p (da_cons (dc C_is_signs hr hgd rfl (da_cons (dv 0) da_nil)) (da_cons de_str (da_cons (de_neg de_int) da_nil))))))
  (xs_one (xs_p (ds_ret (dc C_in_sign_order hr hgd rfl (da_cons (de_frz (de_uniq (own := [("sign", 1)]) (j := 1) hu70 rfl SC.nd rfl T.m_list (di_seq (dv 0)) (blkOk_by (by show blkC N_sorted_signs (defScope s_sorted_signs) _ _ = true; decide +kernel)) (by decide) (fun _ _ _ _ _ => pg_name (i := 1) SC.nd rfl (Or.inl rfl)) (fun _ _ _ _ _ => (dv 1)))) da_nil))))))

theorem d_sorted_signs {P : Program} {w : World} {K : PySem.W.Frag} {mg : Str → Option Value} {base : Heap} {k : Nat} {f : Addr} {fd : FuncData} {sp : DSp} (T : Tx P w K mg) {sp_in_sign_order : DSp} {sp_is_signs : DSp} {sx_require_usable : DSp} (C_in_sign_order : Callee P w K mg base k "in_sign_order" P_in_sign_order sp_in_sign_order) (C_is_signs : Callee P w K mg base k "is_signs" P_is_signs sp_is_signs)  (X_require_usable : XCallee P w K mg base k "require_usable" P_require_usable sx_require_usable)   
    (F : FunD K "sorted_signs" "sorted_signs" (defArgs s_sorted_signs) (defBody s_sorted_signs) (defScope s_sorted_signs) [] [] f fd) (len : ∀ ds G Q E, sp ds G Q E → ds.length = 1)
    (ok : ∀ ds G Q E, sp ds G Q E → (r_sorted_signs sp_in_sign_order sp_is_signs sx_require_usable) (fun x _ G' => E x G') { nx := fun _ G' => Q .non G', rt := Q } (startD 2 ds) G) : XFn P w K mg base (k + 1) f fd P_sorted_signs sp :=
  xfn_of F sc_sorted_signs len (b_sorted_signs T C_in_sign_order C_is_signs X_require_usable) ok

theorem k_sorted_signs {P : Program} {w : World} {K : PySem.W.Frag} {mg : Str → Option Value} {base : Heap} {k : Nat} {f : Addr} {fd : FuncData} {sp : DSp} (T : Tx P w K mg) {sp_in_sign_order : DSp} {sp_is_signs : DSp} {sx_require_usable : DSp} (C_in_sign_order : Callee P w K mg base k "in_sign_order" P_in_sign_order sp_in_sign_order) (C_is_signs : Callee P w K mg base k "is_signs" P_is_signs sp_is_signs)  (X_require_usable : XCallee P w K mg base k "require_usable" P_require_usable sx_require_usable)   
    (F : FunD K "sorted_signs" "sorted_signs" (defArgs s_sorted_signs) (defBody s_sorted_signs) (defScope s_sorted_signs) [] [] f fd) (hm : mg "sorted_signs" = some (.ref f)) (len : ∀ ds G Q E, sp ds G Q E → ds.length = 1)
    (ok : ∀ ds G Q E, sp ds G Q E → (r_sorted_signs sp_in_sign_order sp_is_signs sx_require_usable) (fun x _ G' => E x G') { nx := fun _ G' => Q .non G', rt := Q } (startD 2 ds) G) : XCallee P w K mg base (k + 1) "sorted_signs" P_sorted_signs sp :=
  xcallee_of F hm (d_sorted_signs T C_in_sign_order C_is_signs X_require_usable F len ok) (fun _ _ _ _ _ _ us hl => match us, hl with | [_], _ => rfl) (fun _ _ _ _ _ _ us hl => match us, hl with | [_], _ => rfl)

abbrev N_is_ahead : List Str := ["signs", "other"]
abbrev P_is_ahead : List Str := ["signs", "other"]

theorem sc_is_ahead : FnScope N_is_ahead P_is_ahead (defScope s_is_ahead) := ⟨rfl, rfl, rfl, by decide +kernel, rfl, by decide +kernel, by decide +kernel⟩

theorem b_is_ahead {P : Program} {w : World} {K : PySem.W.Frag} {mg : Str → Option Value} {base : Heap} {k : Nat} {f : Addr} (T : Tx P w K mg) {sp_signs_rank : DSp} {sp_is_signs : DSp} {sx_require_usable : DSp} (C_signs_rank : Callee P w K mg base k "signs_rank" P_signs_rank sp_signs_rank) (C_is_signs : Callee P w K mg base k "is_signs" P_is_signs sp_is_signs)  (X_require_usable : XCallee P w K mg base k "require_usable" P_require_usable sx_require_usable)    (cdv : Value) (A : Around) (out : List Env) (st : Shared) (H : Hp) (E : XK)
    (hr : Room k (A.deeper (PyProof.Rows.envOfC "is_ahead" (defScope s_is_ahead) st.heap.objs.size f cdv))) (hgd : (A.deeper (PyProof.Rows.envOfC "is_ahead" (defScope s_is_ahead) st.heap.objs.size f cdv)).guards = some []) (tk : Takes (cxOf (L2.CX P w) P w K mg base N_is_ahead "is_ahead" (defScope s_is_ahead) f cdv A out st H E) (fun c d _ H' => E c d H')) (hpo : PassesOwn (model P w) (A.deeper (PyProof.Rows.envOfC "is_ahead" (defScope s_is_ahead) st.heap.objs.size f cdv)) (PyProof.Rows.envOfC "is_ahead" (defScope s_is_ahead) st.heap.objs.size f cdv) (cxOf (L2.CX P w) P w K mg base N_is_ahead "is_ahead" (defScope s_is_ahead) f cdv A out st H E).xe) :
    XSs (cxOf (L2.CX P w) P w K mg base N_is_ahead "is_ahead" (defScope s_is_ahead) f cdv A out st H E) (fun c d _ H' => E c d H') (defBody s_is_ahead) (r_is_ahead sp_signs_rank sp_is_signs sx_require_usable) := by
  have SC := sc_is_ahead
  have hu := hu_of hr
  have hu64 := hr.units
  have hu70 := hu70_of hr
  exact (xs_cons (xs_expr (xc X_require_usable tk hr hgd rfl (xa_p (da_cons (dc C_is_signs hr hgd rfl (da_cons (dv 0) da_nil)) (da_cons de_str (da_cons (de_neg de_int) da_nil))))))
  (xs_cons (xs_expr (xc X_require_usable tk hr hgd rfl (xa_p (da_cons (dc C_is_signs hr hgd rfl (da_cons (dv 1) da_nil)) (da_cons de_str (da_cons (de_neg de_int) da_nil))))))
  (xs_one (xs_p (ds_ret (de_cmp (o_ltT hu70) (dc C_signs_rank hr hgd rfl (da_cons (dv 0) da_nil)) (dc C_signs_rank hr hgd rfl (da_cons (dv 1) da_nil)) (nomark _)))))))

theorem d_is_ahead {P : Program} {w : World} {K : PySem.W.Frag} {mg : Str → Option Value} {base : Heap} {k : Nat} {f : Addr} {fd : FuncData} {sp : DSp} (T : Tx P w K mg) {sp_signs_rank : DSp} {sp_is_signs : DSp} {sx_require_usable : DSp} (C_signs_rank : Callee P w K mg base k "signs_rank" P_signs_rank sp_signs_rank) (C_is_signs : Callee P w K mg base k "is_signs" P_is_signs sp_is_signs)  (X_require_usable : XCallee P w K mg base k "require_usable" P_require_usable sx_require_usable)   
    (F : FunD K "is_ahead" "is_ahead" (defArgs s_is_ahead) (defBody s_is_ahead) (defScope s_is_ahead) [] [] f fd) (len : ∀ ds G Q E, sp ds G Q E → ds.length = 2)
    (ok : ∀ ds G Q E, sp ds G Q E → (r_is_ahead sp_signs_rank sp_is_signs sx_require_usable) (fun x _ G' => E x G') { nx := fun _ G' => Q .non G', rt := Q } (startD 2 ds) G) : XFn P w K mg base (k + 1) f fd P_is_ahead sp :=
  xfn_of F sc_is_ahead len (b_is_ahead T C_signs_rank C_is_signs X_require_usable) ok

theorem k_is_ahead {P : Program} {w : World} {K : PySem.W.Frag} {mg : Str → Option Value} {base : Heap} {k : Nat} {f : Addr} {fd : FuncData} {sp : DSp} (T : Tx P w K mg) {sp_signs_rank : DSp} {sp_is_signs : DSp} {sx_require_usable : DSp} (C_signs_rank : Callee P w K mg base k "signs_rank" P_signs_rank sp_signs_rank) (C_is_signs : Callee P w K mg base k "is_signs" P_is_signs sp_is_signs)  (X_require_usable : XCallee P w K mg base k "require_usable" P_require_usable sx_require_usable)   
    (F : FunD K "is_ahead" "is_ahead" (defArgs s_is_ahead) (defBody s_is_ahead) (defScope s_is_ahead) [] [] f fd) (hm : mg "is_ahead" = some (.ref f)) (len : ∀ ds G Q E, sp ds G Q E → ds.length = 2)
    (ok : ∀ ds G Q E, sp ds G Q E → (r_is_ahead sp_signs_rank sp_is_signs sx_require_usable) (fun x _ G' => E x G') { nx := fun _ G' => Q .non G', rt := Q } (startD 2 ds) G) : XCallee P w K mg base (k + 1) "is_ahead" P_is_ahead sp :=
  xcallee_of F hm (d_is_ahead T C_signs_rank C_is_signs X_require_usable F len ok) (fun _ _ _ _ _ _ us hl => match us, hl with | [_, _], _ => rfl) (fun _ _ _ _ _ _ us hl => match us, hl with | [_, _], _ => rfl)

abbrev N_number_codes : List Str := ["number", "digits", "rest"]
abbrev P_number_codes : List Str := ["number"]

theorem sc_number_codes : FnScope N_number_codes P_number_codes (defScope s_number_codes) := ⟨rfl, rfl, rfl, by decide +kernel, rfl, by decide +kernel, by decide +kernel⟩

theorem b_number_codes {P : Program} {w : World} {K : PySem.W.Frag} {mg : Str → Option Value} {base : Heap} {k : Nat} {f : Addr} (T : Tx P w K mg)    (cdv : Value) (A : Around) (out : List Env) (st : Shared) (H : Hp) (E : XK)
    (hr : Room k (A.deeper (PyProof.Rows.envOfC "number_codes" (defScope s_number_codes) st.heap.objs.size f cdv))) (hgd : (A.deeper (PyProof.Rows.envOfC "number_codes" (defScope s_number_codes) st.heap.objs.size f cdv)).guards = some []) :
    DSs (cxOf CX0 P w K mg base N_number_codes "number_codes" (defScope s_number_codes) f cdv A out st H E).nox (defBody s_number_codes) (r_number_codes) := by
  have SC := sc_number_codes
  have hu := hu_of hr
  have hu64 := hr.units
  have hu70 := hu70_of hr
  exact (ds_cons (ds_set (i := 1) SC.nd rfl (by first | exact Or.inl rfl | exact Or.inr rfl) (de_lst da_nil))
  (ds_cons (ds_set (i := 2) SC.nd rfl (by first | exact Or.inl rfl | exact Or.inr rfl) (dv 0))
  (ds_cons (ds_while PassesOwn.never (dt_cmp o_gt (dv 2) de_int (nomark _))
  (ds_cons (ds_expr (de_append (dv 1) (de_op o_mod (de_callTy c_int rfl T.m_int (by decide +kernel) (da_cons (dv 2) da_nil)) (de_glob rfl T.c_BASE))))
  (ds_one (ds_set (i := 2) SC.nd rfl (by first | exact Or.inl rfl | exact Or.inr rfl) (de_op o_fdiv (dv 2) (de_glob rfl T.c_BASE))))))
  (ds_one (ds_ret (de_frz (de_lst (da_cons (de_callB c_len rfl T.m_len PySem.boot_len (da_cons (dv 1) da_nil)) (da_star (de_frz (de_rev (dv 1))) da_nil)))))))))

theorem d_number_codes {P : Program} {w : World} {K : PySem.W.Frag} {mg : Str → Option Value} {base : Heap} {k : Nat} {f : Addr} {fd : FuncData} {sp : DSp} (T : Tx P w K mg)   
    (F : FunD K "number_codes" "number_codes" (defArgs s_number_codes) (defBody s_number_codes) (defScope s_number_codes) [] [] f fd) (len : ∀ ds G Q E, sp ds G Q E → ds.length = 1)
    (ok : ∀ ds G Q E, sp ds G Q E → (r_number_codes) { nx := fun _ G' => Q .non G', rt := Q } (startD 3 ds) G) : DFn P w K mg base (k + 1) f fd P_number_codes sp :=
  dfn_of F sc_number_codes len (b_number_codes T) ok

theorem k_number_codes {P : Program} {w : World} {K : PySem.W.Frag} {mg : Str → Option Value} {base : Heap} {k : Nat} {f : Addr} {fd : FuncData} {sp : DSp} (T : Tx P w K mg)   
    (F : FunD K "number_codes" "number_codes" (defArgs s_number_codes) (defBody s_number_codes) (defScope s_number_codes) [] [] f fd) (hm : mg "number_codes" = some (.ref f)) (len : ∀ ds G Q E, sp ds G Q E → ds.length = 1)
    (ok : ∀ ds G Q E, sp ds G Q E → (r_number_codes) { nx := fun _ G' => Q .non G', rt := Q } (startD 3 ds) G) : Callee P w K mg base (k + 1) "number_codes" P_number_codes sp :=
  callee_of F hm (d_number_codes T F len ok) (fun _ _ _ _ _ _ us hl => match us, hl with | [_], _ => rfl) (fun _ _ _ _ _ _ us hl => match us, hl with | [_], _ => rfl)

abbrev N_sign_codes : List Str := ["sign", "found", "rest"]
abbrev P_sign_codes : List Str := ["sign"]

theorem sc_sign_codes : FnScope N_sign_codes P_sign_codes (defScope s_sign_codes) := ⟨rfl, rfl, rfl, by decide +kernel, rfl, by decide +kernel, by decide +kernel⟩

theorem b_sign_codes {P : Program} {w : World} {K : PySem.W.Frag} {mg : Str → Option Value} {base : Heap} {k : Nat} {f : Addr} (T : Tx P w K mg) {sp_number_codes : DSp} {sp_is_sided : DSp} (C_number_codes : Callee P w K mg base k "number_codes" P_number_codes sp_number_codes) (C_is_sided : Callee P w K mg base k "is_sided" P_is_sided sp_is_sided)  (cdv : Value) (A : Around) (out : List Env) (st : Shared) (H : Hp) (E : XK)
    (hr : Room k (A.deeper (PyProof.Rows.envOfC "sign_codes" (defScope s_sign_codes) st.heap.objs.size f cdv))) (hgd : (A.deeper (PyProof.Rows.envOfC "sign_codes" (defScope s_sign_codes) st.heap.objs.size f cdv)).guards = some []) :
    DSs (cxOf CX0 P w K mg base N_sign_codes "sign_codes" (defScope s_sign_codes) f cdv A out st H E).nox (defBody s_sign_codes) (r_sign_codes sp_number_codes sp_is_sided) := by
  have SC := sc_sign_codes
  have hu := hu_of hr
  have hu64 := hr.units
  have hu70 := hu70_of hr
  exact (ds_cons (ds_set (i := 1) SC.nd rfl (by first | exact Or.inl rfl | exact Or.inr rfl) (de_lst da_nil))
  (ds_cons (ds_set (i := 2) SC.nd rfl (by first | exact Or.inl rfl | exact Or.inr rfl) (dv 0))
  (ds_cons (ds_while PassesOwn.never (dt_tru (dc C_is_sided hr hgd rfl (da_cons (dv 2) da_nil)))
  (ds_cons (ds_expr (de_append (dv 1) (de_op o_add (de_glob rfl T.c_FIRST_SIDE) (de_idxT T.tdn rfl T.c_SIDES (de_ix (dv 2) de_int)))))
  (ds_one (ds_set (i := 2) SC.nd rfl (by first | exact Or.inl rfl | exact Or.inr rfl) (de_ix (dv 2) de_int)))))
  (ds_cons (ds_if (dt_tru (de_isi (T := "str") (by decide) rfl T.m_isinstance rfl T.m_str (by decide +kernel) (dv 2)))
  (ds_one (ds_ret (de_frz (de_lst (da_star (dv 1) (da_cons (de_idxT T.tdn rfl T.c_PLAIN_SIGNS (dv 2)) da_nil))))))
  ds_nil)
  (ds_one (ds_ret (de_frz (de_lst (da_star (dv 1) (da_cons (de_op o_add (de_glob rfl T.c_FIRST_NUMBER) (de_idxT T.tdn rfl T.c_NUMBER_SIGNS (de_ix (dv 2) de_int))) (da_star (dc C_number_codes hr hgd rfl (da_cons (de_ix (dv 2) de_int) da_nil)) da_nil)))))))))))

theorem d_sign_codes {P : Program} {w : World} {K : PySem.W.Frag} {mg : Str → Option Value} {base : Heap} {k : Nat} {f : Addr} {fd : FuncData} {sp : DSp} (T : Tx P w K mg) {sp_number_codes : DSp} {sp_is_sided : DSp} (C_number_codes : Callee P w K mg base k "number_codes" P_number_codes sp_number_codes) (C_is_sided : Callee P w K mg base k "is_sided" P_is_sided sp_is_sided) 
    (F : FunD K "sign_codes" "sign_codes" (defArgs s_sign_codes) (defBody s_sign_codes) (defScope s_sign_codes) [] [] f fd) (len : ∀ ds G Q E, sp ds G Q E → ds.length = 1)
    (ok : ∀ ds G Q E, sp ds G Q E → (r_sign_codes sp_number_codes sp_is_sided) { nx := fun _ G' => Q .non G', rt := Q } (startD 3 ds) G) : DFn P w K mg base (k + 1) f fd P_sign_codes sp :=
  dfn_of F sc_sign_codes len (b_sign_codes T C_number_codes C_is_sided) ok

theorem k_sign_codes {P : Program} {w : World} {K : PySem.W.Frag} {mg : Str → Option Value} {base : Heap} {k : Nat} {f : Addr} {fd : FuncData} {sp : DSp} (T : Tx P w K mg) {sp_number_codes : DSp} {sp_is_sided : DSp} (C_number_codes : Callee P w K mg base k "number_codes" P_number_codes sp_number_codes) (C_is_sided : Callee P w K mg base k "is_sided" P_is_sided sp_is_sided) 
    (F : FunD K "sign_codes" "sign_codes" (defArgs s_sign_codes) (defBody s_sign_codes) (defScope s_sign_codes) [] [] f fd) (hm : mg "sign_codes" = some (.ref f)) (len : ∀ ds G Q E, sp ds G Q E → ds.length = 1)
    (ok : ∀ ds G Q E, sp ds G Q E → (r_sign_codes sp_number_codes sp_is_sided) { nx := fun _ G' => Q .non G', rt := Q } (startD 3 ds) G) : Callee P w K mg base (k + 1) "sign_codes" P_sign_codes sp :=
  callee_of F hm (d_sign_codes T C_number_codes C_is_sided F len ok) (fun _ _ _ _ _ _ us hl => match us, hl with | [_], _ => rfl) (fun _ _ _ _ _ _ us hl => match us, hl with | [_], _ => rfl)

abbrev N_packed : List Str := ["signs", "found", "sign"]
abbrev P_packed : List Str := ["signs"]

theorem sc_packed : FnScope N_packed P_packed (defScope s_packed) := ⟨rfl, rfl, rfl, by decide +kernel, rfl, by decide +kernel, by decide +kernel⟩

theorem b_packed {P : Program} {w : World} {K : PySem.W.Frag} {mg : Str → Option Value} {base : Heap} {k : Nat} {f : Addr} (T : Tx P w K mg) {sp_sign_codes : DSp} {sp_is_signs : DSp} {sx_require_usable : DSp} (C_sign_codes : Callee P w K mg base k "sign_codes" P_sign_codes sp_sign_codes) (C_is_signs : Callee P w K mg base k "is_signs" P_is_signs sp_is_signs)  (X_require_usable : XCallee P w K mg base k "require_usable" P_require_usable sx_require_usable)    (cdv : Value) (A : Around) (out : List Env) (st : Shared) (H : Hp) (E : XK)
    (hr : Room k (A.deeper (PyProof.Rows.envOfC "packed" (defScope s_packed) st.heap.objs.size f cdv))) (hgd : (A.deeper (PyProof.Rows.envOfC "packed" (defScope s_packed) st.heap.objs.size f cdv)).guards = some []) (tk : Takes (cxOf (L2.CX P w) P w K mg base N_packed "packed" (defScope s_packed) f cdv A out st H E) (fun c d _ H' => E c d H')) (hpo : PassesOwn (model P w) (A.deeper (PyProof.Rows.envOfC "packed" (defScope s_packed) st.heap.objs.size f cdv)) (PyProof.Rows.envOfC "packed" (defScope s_packed) st.heap.objs.size f cdv) (cxOf (L2.CX P w) P w K mg base N_packed "packed" (defScope s_packed) f cdv A out st H E).xe) :
    XSs (cxOf (L2.CX P w) P w K mg base N_packed "packed" (defScope s_packed) f cdv A out st H E) (fun c d _ H' => E c d H') (defBody s_packed) (r_packed sp_sign_codes sp_is_signs sx_require_usable) := by
  have SC := sc_packed
  have hu := hu_of hr
  have hu64 := hr.units
  have hu70 := hu70_of hr
  exact (xs_cons (xs_expr (xc X_require_usable tk hr hgd rfl (xa_p (da_cons (dc C_is_signs hr hgd rfl (da_cons (dv 0) da_nil)) (da_cons de_str (da_cons (de_neg de_int) da_nil))))))
  (xs_cons (xs_p (ds_set (i := 1) SC.nd rfl (by first | exact Or.inl rfl | exact Or.inr rfl) (de_lst da_nil)))
  (xs_cons (xs_for hpo rfl (di_seq (dv 0)) (dg_name (i := 2) SC.nd rfl (by first | exact Or.inl rfl | exact Or.inr rfl))
  (xss_p (ds_one (ds_expr (de_extend (dv 1) (dc C_sign_codes hr hgd rfl (da_cons (dv 2) da_nil)))))))
  (xs_one (xs_p (ds_ret (de_callTy (c_bytes rfl) rfl T.m_bytes (by decide +kernel) (da_cons (dv 1) da_nil))))))))

theorem d_packed {P : Program} {w : World} {K : PySem.W.Frag} {mg : Str → Option Value} {base : Heap} {k : Nat} {f : Addr} {fd : FuncData} {sp : DSp} (T : Tx P w K mg) {sp_sign_codes : DSp} {sp_is_signs : DSp} {sx_require_usable : DSp} (C_sign_codes : Callee P w K mg base k "sign_codes" P_sign_codes sp_sign_codes) (C_is_signs : Callee P w K mg base k "is_signs" P_is_signs sp_is_signs)  (X_require_usable : XCallee P w K mg base k "require_usable" P_require_usable sx_require_usable)   
    (F : FunD K "packed" "packed" (defArgs s_packed) (defBody s_packed) (defScope s_packed) [] [] f fd) (len : ∀ ds G Q E, sp ds G Q E → ds.length = 1)
    (ok : ∀ ds G Q E, sp ds G Q E → (r_packed sp_sign_codes sp_is_signs sx_require_usable) (fun x _ G' => E x G') { nx := fun _ G' => Q .non G', rt := Q } (startD 3 ds) G) : XFn P w K mg base (k + 1) f fd P_packed sp :=
  xfn_of F sc_packed len (b_packed T C_sign_codes C_is_signs X_require_usable) ok

theorem k_packed {P : Program} {w : World} {K : PySem.W.Frag} {mg : Str → Option Value} {base : Heap} {k : Nat} {f : Addr} {fd : FuncData} {sp : DSp} (T : Tx P w K mg) {sp_sign_codes : DSp} {sp_is_signs : DSp} {sx_require_usable : DSp} (C_sign_codes : Callee P w K mg base k "sign_codes" P_sign_codes sp_sign_codes) (C_is_signs : Callee P w K mg base k "is_signs" P_is_signs sp_is_signs)  (X_require_usable : XCallee P w K mg base k "require_usable" P_require_usable sx_require_usable)   
    (F : FunD K "packed" "packed" (defArgs s_packed) (defBody s_packed) (defScope s_packed) [] [] f fd) (hm : mg "packed" = some (.ref f)) (len : ∀ ds G Q E, sp ds G Q E → ds.length = 1)
    (ok : ∀ ds G Q E, sp ds G Q E → (r_packed sp_sign_codes sp_is_signs sx_require_usable) (fun x _ G' => E x G') { nx := fun _ G' => Q .non G', rt := Q } (startD 3 ds) G) : XCallee P w K mg base (k + 1) "packed" P_packed sp :=
  xcallee_of F hm (d_packed T C_sign_codes C_is_signs X_require_usable F len ok) (fun _ _ _ _ _ _ us hl => match us, hl with | [_], _ => rfl) (fun _ _ _ _ _ _ us hl => match us, hl with | [_], _ => rfl)

abbrev N_ByteReader___init__ : List Str := ["self", "data"]
abbrev P_ByteReader___init__ : List Str := ["self", "data"]

theorem sc_ByteReader___init__ : FnScope N_ByteReader___init__ P_ByteReader___init__ (defScope s_ByteReader___init__) := ⟨rfl, rfl, rfl, by decide +kernel, rfl, by decide +kernel, by decide +kernel⟩

theorem b_ByteReader___init__ {P : Program} {w : World} {K : PySem.W.Frag} {mg : Str → Option Value} {base : Heap} {k : Nat} {f : Addr} (T : Tx P w K mg)    (cdv : Value) (A : Around) (out : List Env) (st : Shared) (H : Hp) (E : XK)
    (hr : Room k (A.deeper (PyProof.Rows.envOfC "ByteReader.__init__" (defScope s_ByteReader___init__) st.heap.objs.size f cdv))) (hgd : (A.deeper (PyProof.Rows.envOfC "ByteReader.__init__" (defScope s_ByteReader___init__) st.heap.objs.size f cdv)).guards = some []) :
    DSs (cxOf CX0 P w K mg base N_ByteReader___init__ "ByteReader.__init__" (defScope s_ByteReader___init__) f cdv A out st H E).nox (defBody s_ByteReader___init__) (r_ByteReader___init__) := by
  have SC := sc_ByteReader___init__
  have hu := hu_of hr
  have hu64 := hr.units
  have hu70 := hu70_of hr
  exact (ds_cons (ds_setF T.pc_ByteReader T.na_ByteReader_own_data (dv 0) (dv 1))
  (ds_one (ds_setF T.pc_ByteReader T.na_ByteReader_spot (dv 0) de_int)))

theorem d_ByteReader___init__ {P : Program} {w : World} {K : PySem.W.Frag} {mg : Str → Option Value} {base : Heap} {k : Nat} {f : Addr} {fd : FuncData} {sp : DSp} (T : Tx P w K mg)   
    (F : FunD K "__init__" "ByteReader.__init__" (defArgs s_ByteReader___init__) (defBody s_ByteReader___init__) (defScope s_ByteReader___init__) [] [] f fd) (len : ∀ ds G Q E, sp ds G Q E → ds.length = 2)
    (ok : ∀ ds G Q E, sp ds G Q E → (r_ByteReader___init__) { nx := fun _ G' => Q .non G', rt := Q } (startD 2 ds) G) : DFn P w K mg base (k + 1) f fd P_ByteReader___init__ sp :=
  dfn_of F sc_ByteReader___init__ len (b_ByteReader___init__ T) ok

theorem mk_ByteReader___init__ {P : Program} {w : World} {K : PySem.W.Frag} {mg : Str → Option Value} {base : Heap} {k : Nat} {f : Addr} {fd : FuncData} {sp : DSp} (hM : Mk K (He.ga K "ByteReader") f) (hmg : mg "ByteReader" = some (.ref (He.ga K "ByteReader"))) (F : FunD K "__init__" "ByteReader.__init__" (defArgs s_ByteReader___init__) (defBody s_ByteReader___init__) (defScope s_ByteReader___init__) [] [] f fd) (D : DFn P w K mg base k f fd P_ByteReader___init__ sp) : ICallee P w K mg base k "ByteReader" P_ByteReader___init__ sp :=
  ⟨f, fd, D, hM, hmg, F.bindsN (fun _ _ _ _ _ _ us hl => match us, hl with | [_, _], _ => rfl)⟩

abbrev N_ByteReader_has_more : List Str := ["self"]
abbrev P_ByteReader_has_more : List Str := ["self"]

theorem sc_ByteReader_has_more : FnScope N_ByteReader_has_more P_ByteReader_has_more (defScope s_ByteReader_has_more) := ⟨rfl, rfl, rfl, by decide +kernel, rfl, by decide +kernel, by decide +kernel⟩

theorem b_ByteReader_has_more {P : Program} {w : World} {K : PySem.W.Frag} {mg : Str → Option Value} {base : Heap} {k : Nat} {f : Addr} (T : Tx P w K mg)    (cdv : Value) (A : Around) (out : List Env) (st : Shared) (H : Hp) (E : XK)
    (hr : Room k (A.deeper (PyProof.Rows.envOfC "ByteReader.has_more" (defScope s_ByteReader_has_more) st.heap.objs.size f cdv))) (hgd : (A.deeper (PyProof.Rows.envOfC "ByteReader.has_more" (defScope s_ByteReader_has_more) st.heap.objs.size f cdv)).guards = some []) :
    DSs (cxOf CX0 P w K mg base N_ByteReader_has_more "ByteReader.has_more" (defScope s_ByteReader_has_more) f cdv A out st H E).nox (defBody s_ByteReader_has_more) (r_ByteReader_has_more) := by
  have SC := sc_ByteReader_has_more
  have hu := hu_of hr
  have hu64 := hr.units
  have hu70 := hu70_of hr
  exact (ds_one (ds_ret (de_cmp o_lt (de_fld T.pc_ByteReader T.na_ByteReader_spot (dv 0)) (de_callB c_lenB rfl T.m_len PySem.boot_len (da_cons (de_fld T.pc_ByteReader T.na_ByteReader_own_data (dv 0)) da_nil)) (nomark _))))

theorem d_ByteReader_has_more {P : Program} {w : World} {K : PySem.W.Frag} {mg : Str → Option Value} {base : Heap} {k : Nat} {f : Addr} {fd : FuncData} {sp : DSp} (T : Tx P w K mg)   
    (F : FunD K "has_more" "ByteReader.has_more" (defArgs s_ByteReader_has_more) (defBody s_ByteReader_has_more) (defScope s_ByteReader_has_more) [] [] f fd) (len : ∀ ds G Q E, sp ds G Q E → ds.length = 1)
    (ok : ∀ ds G Q E, sp ds G Q E → (r_ByteReader_has_more) { nx := fun _ G' => Q .non G', rt := Q } (startD 1 ds) G) : DFn P w K mg base (k + 1) f fd P_ByteReader_has_more sp :=
  dfn_of F sc_ByteReader_has_more len (b_ByteReader_has_more T) ok

theorem mk_ByteReader_has_more {P : Program} {w : World} {K : PySem.W.Frag} {mg : Str → Option Value} {base : Heap} {k : Nat} {f : Addr} {fd : FuncData} {sp : DSp} (hc : Cls K (He.ga K "ByteReader")) (hm : Meth K (He.ga K "ByteReader") "has_more" f) (F : FunD K "has_more" "ByteReader.has_more" (defArgs s_ByteReader_has_more) (defBody s_ByteReader_has_more) (defScope s_ByteReader_has_more) [] [] f fd) (D : DFn P w K mg base k f fd P_ByteReader_has_more sp) : MCallee P w K mg base k "ByteReader" "has_more" P_ByteReader_has_more sp :=
  ⟨f, fd, D, hc, hm, F.bindsN (fun _ _ _ _ _ _ us hl => match us, hl with | [_], _ => rfl)⟩

abbrev N_ByteReader_take_byte : List Str := ["self", "least", "most"]
abbrev P_ByteReader_take_byte : List Str := ["self", "least", "most"]

theorem sc_ByteReader_take_byte : FnScope N_ByteReader_take_byte P_ByteReader_take_byte (defScope s_ByteReader_take_byte) := ⟨rfl, rfl, rfl, by decide +kernel, rfl, by decide +kernel, by decide +kernel⟩

theorem b_ByteReader_take_byte {P : Program} {w : World} {K : PySem.W.Frag} {mg : Str → Option Value} {base : Heap} {k : Nat} {f : Addr} (T : Tx P w K mg)  {sx_require_usable : DSp}   (X_require_usable : XCallee P w K mg base k "require_usable" P_require_usable sx_require_usable)  {sp_ByteReader_has_more : DSp} (MC_ByteReader_has_more : MCallee P w K mg base k "ByteReader" "has_more" P_ByteReader_has_more sp_ByteReader_has_more)   (cdv : Value) (A : Around) (out : List Env) (st : Shared) (H : Hp) (E : XK)
    (hr : Room k (A.deeper (PyProof.Rows.envOfC "ByteReader.take_byte" (defScope s_ByteReader_take_byte) st.heap.objs.size f cdv))) (hgd : (A.deeper (PyProof.Rows.envOfC "ByteReader.take_byte" (defScope s_ByteReader_take_byte) st.heap.objs.size f cdv)).guards = some []) (tk : Takes (cxOf (L2.CX P w) P w K mg base N_ByteReader_take_byte "ByteReader.take_byte" (defScope s_ByteReader_take_byte) f cdv A out st H E) (fun c d _ H' => E c d H')) (hpo : PassesOwn (model P w) (A.deeper (PyProof.Rows.envOfC "ByteReader.take_byte" (defScope s_ByteReader_take_byte) st.heap.objs.size f cdv)) (PyProof.Rows.envOfC "ByteReader.take_byte" (defScope s_ByteReader_take_byte) st.heap.objs.size f cdv) (cxOf (L2.CX P w) P w K mg base N_ByteReader_take_byte "ByteReader.take_byte" (defScope s_ByteReader_take_byte) f cdv A out st H E).xe) :
    XSs (cxOf (L2.CX P w) P w K mg base N_ByteReader_take_byte "ByteReader.take_byte" (defScope s_ByteReader_take_byte) f cdv A out st H E) (fun c d _ H' => E c d H') (defBody s_ByteReader_take_byte) (r_ByteReader_take_byte sx_require_usable sp_ByteReader_has_more) := by
  have SC := sc_ByteReader_take_byte
  have hu := hu_of hr
  have hu64 := hr.units
  have hu70 := hu70_of hr
  exact (xs_cons (xs_expr (xc X_require_usable tk hr hgd rfl (xa_p (da_cons (de_and (dcm0 MC_ByteReader_has_more hr hgd (dv 0)) (de_one (de_chain o_le o_lt (dv 1) (de_ixB (de_fld T.pc_ByteReader T.na_ByteReader_own_data (dv 0)) (de_fld T.pc_ByteReader T.na_ByteReader_spot (dv 0))) (dv 2)))) (da_cons de_str (da_cons (de_fld T.pc_ByteReader T.na_ByteReader_spot (dv 0)) da_nil))))))
  (xs_cons (xs_p (ds_fldaug T.pc_ByteReader T.na_ByteReader_spot (dv 0) de_int))
  (xs_one (xs_p (ds_ret (de_ixB (de_fld T.pc_ByteReader T.na_ByteReader_own_data (dv 0)) (de_op o_sub (de_fld T.pc_ByteReader T.na_ByteReader_spot (dv 0)) de_int)))))))

theorem d_ByteReader_take_byte {P : Program} {w : World} {K : PySem.W.Frag} {mg : Str → Option Value} {base : Heap} {k : Nat} {f : Addr} {fd : FuncData} {sp : DSp} (T : Tx P w K mg)  {sx_require_usable : DSp}   (X_require_usable : XCallee P w K mg base k "require_usable" P_require_usable sx_require_usable)  {sp_ByteReader_has_more : DSp} (MC_ByteReader_has_more : MCallee P w K mg base k "ByteReader" "has_more" P_ByteReader_has_more sp_ByteReader_has_more)  
    (F : FunD K "take_byte" "ByteReader.take_byte" (defArgs s_ByteReader_take_byte) (defBody s_ByteReader_take_byte) (defScope s_ByteReader_take_byte) [] [] f fd) (len : ∀ ds G Q E, sp ds G Q E → ds.length = 3)
    (ok : ∀ ds G Q E, sp ds G Q E → (r_ByteReader_take_byte sx_require_usable sp_ByteReader_has_more) (fun x _ G' => E x G') { nx := fun _ G' => Q .non G', rt := Q } (startD 3 ds) G) : XFn P w K mg base (k + 1) f fd P_ByteReader_take_byte sp :=
  xfn_of F sc_ByteReader_take_byte len (b_ByteReader_take_byte T X_require_usable MC_ByteReader_has_more) ok

theorem mk_ByteReader_take_byte {P : Program} {w : World} {K : PySem.W.Frag} {mg : Str → Option Value} {base : Heap} {k : Nat} {f : Addr} {fd : FuncData} {sp : DSp} (hc : Cls K (He.ga K "ByteReader")) (hm : Meth K (He.ga K "ByteReader") "take_byte" f) (F : FunD K "take_byte" "ByteReader.take_byte" (defArgs s_ByteReader_take_byte) (defBody s_ByteReader_take_byte) (defScope s_ByteReader_take_byte) [] [] f fd) (D : XFn P w K mg base k f fd P_ByteReader_take_byte sp) : MCalleeY P w K mg base k "ByteReader" "take_byte" 3 sp :=
  mcalleeY_of (src := [(0, 0), (0, 1), (0, 2)]) hc hm F D (fun _ us hl => match us, hl with | [_, _, _], _ => rfl) (fun _ _ _ _ _ _ us hl => match us, hl with | [_, _, _], _ => rfl)

abbrev N_ByteReader_take_digits : List Str := ["self", "many", "number", "k"]
abbrev P_ByteReader_take_digits : List Str := ["self"]

theorem sc_ByteReader_take_digits : FnScope N_ByteReader_take_digits P_ByteReader_take_digits (defScope s_ByteReader_take_digits) := ⟨rfl, rfl, rfl, by decide +kernel, rfl, by decide +kernel, by decide +kernel⟩

theorem b_ByteReader_take_digits {P : Program} {w : World} {K : PySem.W.Frag} {mg : Str → Option Value} {base : Heap} {k : Nat} {f : Addr} (T : Tx P w K mg)       {sx_ByteReader_take_byte : DSp} (MY_ByteReader_take_byte : MCalleeY P w K mg base k "ByteReader" "take_byte" 3 sx_ByteReader_take_byte)   (cdv : Value) (A : Around) (out : List Env) (st : Shared) (H : Hp) (E : XK)
    (hr : Room k (A.deeper (PyProof.Rows.envOfC "ByteReader.take_digits" (defScope s_ByteReader_take_digits) st.heap.objs.size f cdv))) (hgd : (A.deeper (PyProof.Rows.envOfC "ByteReader.take_digits" (defScope s_ByteReader_take_digits) st.heap.objs.size f cdv)).guards = some []) (tk : Takes (cxOf (L2.CX P w) P w K mg base N_ByteReader_take_digits "ByteReader.take_digits" (defScope s_ByteReader_take_digits) f cdv A out st H E) (fun c d _ H' => E c d H')) (hpo : PassesOwn (model P w) (A.deeper (PyProof.Rows.envOfC "ByteReader.take_digits" (defScope s_ByteReader_take_digits) st.heap.objs.size f cdv)) (PyProof.Rows.envOfC "ByteReader.take_digits" (defScope s_ByteReader_take_digits) st.heap.objs.size f cdv) (cxOf (L2.CX P w) P w K mg base N_ByteReader_take_digits "ByteReader.take_digits" (defScope s_ByteReader_take_digits) f cdv A out st H E).xe) :
    XSs (cxOf (L2.CX P w) P w K mg base N_ByteReader_take_digits "ByteReader.take_digits" (defScope s_ByteReader_take_digits) f cdv A out st H E) (fun c d _ H' => E c d H') (defBody s_ByteReader_take_digits) (r_ByteReader_take_digits sx_ByteReader_take_byte) := by
  have SC := sc_ByteReader_take_digits
  have hu := hu_of hr
  have hu64 := hr.units
  have hu70 := hu70_of hr
  exact (xs_cons (xs_set (i := 1) SC.nd rfl (by first | exact Or.inl rfl | exact Or.inr rfl) (xcmY MY_ByteReader_take_byte tk hr hgd (dv 0) (da_cons de_int (da_cons (de_glob rfl T.c_BASE) da_nil))))
  (xs_cons (xs_p (ds_set (i := 2) SC.nd rfl (by first | exact Or.inl rfl | exact Or.inr rfl) de_int))
  (xs_cons (xs_for hpo rfl (di_range1 rfl T.m_range (da_cons (dv 1) da_nil)) (dg_name (i := 3) SC.nd rfl (by first | exact Or.inl rfl | exact Or.inr rfl))
  (xs_one (xs_set (i := 2) SC.nd rfl (by first | exact Or.inl rfl | exact Or.inr rfl) (xe_op o_add (xe_p (de_op o_mul (dv 2) (de_glob rfl T.c_BASE))) (xcmY MY_ByteReader_take_byte tk hr hgd (dv 0) (da_cons (de_if (dt_cmp (o_eq hu64) (dv 3) de_int (nomark _)) de_int de_int) (da_cons (de_glob rfl T.c_BASE) da_nil)))))))
  (xs_one (xs_p (ds_ret (dv 2)))))))

theorem d_ByteReader_take_digits {P : Program} {w : World} {K : PySem.W.Frag} {mg : Str → Option Value} {base : Heap} {k : Nat} {f : Addr} {fd : FuncData} {sp : DSp} (T : Tx P w K mg)       {sx_ByteReader_take_byte : DSp} (MY_ByteReader_take_byte : MCalleeY P w K mg base k "ByteReader" "take_byte" 3 sx_ByteReader_take_byte)  
    (F : FunD K "take_digits" "ByteReader.take_digits" (defArgs s_ByteReader_take_digits) (defBody s_ByteReader_take_digits) (defScope s_ByteReader_take_digits) [] [] f fd) (len : ∀ ds G Q E, sp ds G Q E → ds.length = 1)
    (ok : ∀ ds G Q E, sp ds G Q E → (r_ByteReader_take_digits sx_ByteReader_take_byte) (fun x _ G' => E x G') { nx := fun _ G' => Q .non G', rt := Q } (startD 4 ds) G) : XFn P w K mg base (k + 1) f fd P_ByteReader_take_digits sp :=
  xfn_of F sc_ByteReader_take_digits len (b_ByteReader_take_digits T MY_ByteReader_take_byte) ok

theorem mk_ByteReader_take_digits {P : Program} {w : World} {K : PySem.W.Frag} {mg : Str → Option Value} {base : Heap} {k : Nat} {f : Addr} {fd : FuncData} {sp : DSp} (hc : Cls K (He.ga K "ByteReader")) (hm : Meth K (He.ga K "ByteReader") "take_digits" f) (F : FunD K "take_digits" "ByteReader.take_digits" (defArgs s_ByteReader_take_digits) (defBody s_ByteReader_take_digits) (defScope s_ByteReader_take_digits) [] [] f fd) (D : XFn P w K mg base k f fd P_ByteReader_take_digits sp) : MCalleeY P w K mg base k "ByteReader" "take_digits" 1 sp :=
  mcalleeY_of (src := [(0, 0)]) hc hm F D (fun _ us hl => match us, hl with | [_], _ => rfl) (fun _ _ _ _ _ _ us hl => match us, hl with | [_], _ => rfl)

abbrev N_ByteReader_take_sign : List Str := ["self", "sides", "code", "found", "side"]
abbrev P_ByteReader_take_sign : List Str := ["self"]

theorem sc_ByteReader_take_sign : FnScope N_ByteReader_take_sign P_ByteReader_take_sign (defScope s_ByteReader_take_sign) := ⟨rfl, rfl, rfl, by decide +kernel, rfl, by decide +kernel, by decide +kernel⟩

theorem b_ByteReader_take_sign {P : Program} {w : World} {K : PySem.W.Frag} {mg : Str → Option Value} {base : Heap} {k : Nat} {f : Addr} (T : Tx P w K mg)       {sx_ByteReader_take_digits : DSp} {sx_ByteReader_take_byte : DSp} (MY_ByteReader_take_digits : MCalleeY P w K mg base k "ByteReader" "take_digits" 1 sx_ByteReader_take_digits) (MY_ByteReader_take_byte : MCalleeY P w K mg base k "ByteReader" "take_byte" 3 sx_ByteReader_take_byte)   (cdv : Value) (A : Around) (out : List Env) (st : Shared) (H : Hp) (E : XK)
    (hr : Room k (A.deeper (PyProof.Rows.envOfC "ByteReader.take_sign" (defScope s_ByteReader_take_sign) st.heap.objs.size f cdv))) (hgd : (A.deeper (PyProof.Rows.envOfC "ByteReader.take_sign" (defScope s_ByteReader_take_sign) st.heap.objs.size f cdv)).guards = some []) (tk : Takes (cxOf (L2.CX P w) P w K mg base N_ByteReader_take_sign "ByteReader.take_sign" (defScope s_ByteReader_take_sign) f cdv A out st H E) (fun c d _ H' => E c d H')) (hpo : PassesOwn (model P w) (A.deeper (PyProof.Rows.envOfC "ByteReader.take_sign" (defScope s_ByteReader_take_sign) st.heap.objs.size f cdv)) (PyProof.Rows.envOfC "ByteReader.take_sign" (defScope s_ByteReader_take_sign) st.heap.objs.size f cdv) (cxOf (L2.CX P w) P w K mg base N_ByteReader_take_sign "ByteReader.take_sign" (defScope s_ByteReader_take_sign) f cdv A out st H E).xe) :
    XSs (cxOf (L2.CX P w) P w K mg base N_ByteReader_take_sign "ByteReader.take_sign" (defScope s_ByteReader_take_sign) f cdv A out st H E) (fun c d _ H' => E c d H') (defBody s_ByteReader_take_sign) (r_ByteReader_take_sign sx_ByteReader_take_digits sx_ByteReader_take_byte) := by
  have SC := sc_ByteReader_take_sign
  have hu := hu_of hr
  have hu64 := hr.units
  have hu70 := hu70_of hr
  exact (xs_cons (xs_p (ds_set (i := 1) SC.nd rfl (by first | exact Or.inl rfl | exact Or.inr rfl) (de_lst da_nil)))
  (xs_cons (xs_set (i := 2) SC.nd rfl (by first | exact Or.inl rfl | exact Or.inr rfl) (xcmY MY_ByteReader_take_byte tk hr hgd (dv 0) (da_cons de_int (da_cons (de_glob rfl T.c_BEHIND_SIDES) da_nil))))
  (xs_cons (xs_while hpo (xt_p (dt_cmp o_ge (dv 2) (de_glob rfl T.c_FIRST_SIDE) (nomark _)))
  (xs_cons (xs_p (ds_expr (de_append (dv 1) (de_ix (de_glob rfl T.c_SIDES) (de_op o_sub (dv 2) (de_glob rfl T.c_FIRST_SIDE))))))
  (xs_one (xs_set (i := 2) SC.nd rfl (by first | exact Or.inl rfl | exact Or.inr rfl) (xcmY MY_ByteReader_take_byte tk hr hgd (dv 0) (da_cons de_int (da_cons (de_if (dt_cmp o_lt (de_callB c_len rfl T.m_len PySem.boot_len (da_cons (dv 1) da_nil)) (de_glob rfl T.c_MOST_SIDES) (nomark _)) (de_glob rfl T.c_BEHIND_SIDES) (de_glob rfl T.c_FIRST_SIDE)) da_nil)))))))
  (xs_cons (xs_if (xt_p (dt_cmp o_lt (dv 2) (de_glob rfl T.c_FIRST_NUMBER) (nomark _)))
  (xss_p (ds_one (ds_set (i := 3) SC.nd rfl (by first | exact Or.inl rfl | exact Or.inr rfl) (de_ix (de_glob rfl T.c_PLAIN_SIGNS) (dv 2)))))
  (xs_one (xs_set (i := 3) SC.nd rfl (by first | exact Or.inl rfl | exact Or.inr rfl) (xe_tup (xa_cons (xe_p (de_ix (de_glob rfl T.c_NUMBER_SIGNS) (de_op o_sub (dv 2) (de_glob rfl T.c_FIRST_NUMBER)))) (xa_cons (xcmY0 MY_ByteReader_take_digits tk hr hgd (dv 0)) (xa_p da_nil)))))))
  (xs_cons (xs_for hpo rfl (di_seq (de_frz (de_rev (dv 1)))) (dg_name (i := 4) SC.nd rfl (by first | exact Or.inl rfl | exact Or.inr rfl))
  (xss_p (ds_one (ds_set (i := 3) SC.nd rfl (by first | exact Or.inl rfl | exact Or.inr rfl) (de_tup (da_cons (dv 4) (da_cons (dv 3) da_nil)))))))
  (xs_one (xs_p (ds_ret (dv 3)))))))))

theorem d_ByteReader_take_sign {P : Program} {w : World} {K : PySem.W.Frag} {mg : Str → Option Value} {base : Heap} {k : Nat} {f : Addr} {fd : FuncData} {sp : DSp} (T : Tx P w K mg)       {sx_ByteReader_take_digits : DSp} {sx_ByteReader_take_byte : DSp} (MY_ByteReader_take_digits : MCalleeY P w K mg base k "ByteReader" "take_digits" 1 sx_ByteReader_take_digits) (MY_ByteReader_take_byte : MCalleeY P w K mg base k "ByteReader" "take_byte" 3 sx_ByteReader_take_byte)  
    (F : FunD K "take_sign" "ByteReader.take_sign" (defArgs s_ByteReader_take_sign) (defBody s_ByteReader_take_sign) (defScope s_ByteReader_take_sign) [] [] f fd) (len : ∀ ds G Q E, sp ds G Q E → ds.length = 1)
    (ok : ∀ ds G Q E, sp ds G Q E → (r_ByteReader_take_sign sx_ByteReader_take_digits sx_ByteReader_take_byte) (fun x _ G' => E x G') { nx := fun _ G' => Q .non G', rt := Q } (startD 5 ds) G) : XFn P w K mg base (k + 1) f fd P_ByteReader_take_sign sp :=
  xfn_of F sc_ByteReader_take_sign len (b_ByteReader_take_sign T MY_ByteReader_take_digits MY_ByteReader_take_byte) ok

theorem mk_ByteReader_take_sign {P : Program} {w : World} {K : PySem.W.Frag} {mg : Str → Option Value} {base : Heap} {k : Nat} {f : Addr} {fd : FuncData} {sp : DSp} (hc : Cls K (He.ga K "ByteReader")) (hm : Meth K (He.ga K "ByteReader") "take_sign" f) (F : FunD K "take_sign" "ByteReader.take_sign" (defArgs s_ByteReader_take_sign) (defBody s_ByteReader_take_sign) (defScope s_ByteReader_take_sign) [] [] f fd) (D : XFn P w K mg base k f fd P_ByteReader_take_sign sp) : MCalleeY P w K mg base k "ByteReader" "take_sign" 1 sp :=
  mcalleeY_of (src := [(0, 0)]) hc hm F D (fun _ us hl => match us, hl with | [_], _ => rfl) (fun _ _ _ _ _ _ us hl => match us, hl with | [_], _ => rfl)

abbrev N_unpacked : List Str := ["data", "reader", "found"]
abbrev P_unpacked : List Str := ["data"]

theorem sc_unpacked : FnScope N_unpacked P_unpacked (defScope s_unpacked) := ⟨rfl, rfl, rfl, by decide +kernel, rfl, by decide +kernel, by decide +kernel⟩

theorem b_unpacked {P : Program} {w : World} {K : PySem.W.Frag} {mg : Str → Option Value} {base : Heap} {k : Nat} {f : Addr} (T : Tx P w K mg)  {sx_require_usable : DSp}   (X_require_usable : XCallee P w K mg base k "require_usable" P_require_usable sx_require_usable)  {sp_ByteReader_has_more : DSp} {sx_ByteReader_take_sign : DSp} {sp_ByteReader___init__ : DSp} {kp : Nat} (hkp : kp + 1 ≤ k) (MC_ByteReader_has_more : MCallee P w K mg base k "ByteReader" "has_more" P_ByteReader_has_more sp_ByteReader_has_more) (MY_ByteReader_take_sign : MCalleeY P w K mg base k "ByteReader" "take_sign" 1 sx_ByteReader_take_sign) (IC_ByteReader : ICallee P w K mg base kp "ByteReader" P_ByteReader___init__ sp_ByteReader___init__)   (cdv : Value) (A : Around) (out : List Env) (st : Shared) (H : Hp) (E : XK)
    (hr : Room k (A.deeper (PyProof.Rows.envOfC "unpacked" (defScope s_unpacked) st.heap.objs.size f cdv))) (hgd : (A.deeper (PyProof.Rows.envOfC "unpacked" (defScope s_unpacked) st.heap.objs.size f cdv)).guards = some []) (tk : Takes (cxOf (L2.CX P w) P w K mg base N_unpacked "unpacked" (defScope s_unpacked) f cdv A out st H E) (fun c d _ H' => E c d H')) (hpo : PassesOwn (model P w) (A.deeper (PyProof.Rows.envOfC "unpacked" (defScope s_unpacked) st.heap.objs.size f cdv)) (PyProof.Rows.envOfC "unpacked" (defScope s_unpacked) st.heap.objs.size f cdv) (cxOf (L2.CX P w) P w K mg base N_unpacked "unpacked" (defScope s_unpacked) f cdv A out st H E).xe) :
    XSs (cxOf (L2.CX P w) P w K mg base N_unpacked "unpacked" (defScope s_unpacked) f cdv A out st H E) (fun c d _ H' => E c d H') (defBody s_unpacked) (r_unpacked sx_require_usable sp_ByteReader_has_more sx_ByteReader_take_sign sp_ByteReader___init__) := by
  have SC := sc_unpacked
  have hu := hu_of hr
  have hu64 := hr.units
  have hu70 := hu70_of hr
  exact (xs_cons (xs_expr (xc X_require_usable tk hr hgd rfl (xa_p (da_cons (de_isiB rfl T.m_isinstance rfl T.m_bytes (by decide +kernel) (dv 0)) (da_cons de_str (da_cons (de_neg de_int) da_nil))))))
  (xs_cons (xs_p (ds_set (i := 1) SC.nd rfl (by first | exact Or.inl rfl | exact Or.inr rfl) (dci IC_ByteReader (hr.mono hkp) hgd rfl (da_cons (dv 0) da_nil))))
  (xs_cons (xs_p (ds_set (i := 2) SC.nd rfl (by first | exact Or.inl rfl | exact Or.inr rfl) (de_lst da_nil)))
  (xs_cons (xs_while hpo (xt_p (dt_tru (dcm0 MC_ByteReader_has_more hr hgd (dv 1))))
  (xs_one (xs_expr (xe_append (dv 2) (xcmY0 MY_ByteReader_take_sign tk hr hgd (dv 1))))))
  (xs_one (xs_p (ds_ret (de_callTy c_tuple rfl T.m_tuple (by decide +kernel) (da_cons (dv 2) da_nil)))))))))

theorem d_unpacked {P : Program} {w : World} {K : PySem.W.Frag} {mg : Str → Option Value} {base : Heap} {k : Nat} {f : Addr} {fd : FuncData} {sp : DSp} (T : Tx P w K mg)  {sx_require_usable : DSp}   (X_require_usable : XCallee P w K mg base k "require_usable" P_require_usable sx_require_usable)  {sp_ByteReader_has_more : DSp} {sx_ByteReader_take_sign : DSp} {sp_ByteReader___init__ : DSp} {kp : Nat} (hkp : kp + 1 ≤ k) (MC_ByteReader_has_more : MCallee P w K mg base k "ByteReader" "has_more" P_ByteReader_has_more sp_ByteReader_has_more) (MY_ByteReader_take_sign : MCalleeY P w K mg base k "ByteReader" "take_sign" 1 sx_ByteReader_take_sign) (IC_ByteReader : ICallee P w K mg base kp "ByteReader" P_ByteReader___init__ sp_ByteReader___init__)  
    (F : FunD K "unpacked" "unpacked" (defArgs s_unpacked) (defBody s_unpacked) (defScope s_unpacked) [] [] f fd) (len : ∀ ds G Q E, sp ds G Q E → ds.length = 1)
    (ok : ∀ ds G Q E, sp ds G Q E → (r_unpacked sx_require_usable sp_ByteReader_has_more sx_ByteReader_take_sign sp_ByteReader___init__) (fun x _ G' => E x G') { nx := fun _ G' => Q .non G', rt := Q } (startD 3 ds) G) : XFn P w K mg base (k + 1) f fd P_unpacked sp :=
  xfn_of F sc_unpacked len (b_unpacked T X_require_usable hkp MC_ByteReader_has_more MY_ByteReader_take_sign IC_ByteReader) ok

theorem k_unpacked {P : Program} {w : World} {K : PySem.W.Frag} {mg : Str → Option Value} {base : Heap} {k : Nat} {f : Addr} {fd : FuncData} {sp : DSp} (T : Tx P w K mg)  {sx_require_usable : DSp}   (X_require_usable : XCallee P w K mg base k "require_usable" P_require_usable sx_require_usable)  {sp_ByteReader_has_more : DSp} {sx_ByteReader_take_sign : DSp} {sp_ByteReader___init__ : DSp} {kp : Nat} (hkp : kp + 1 ≤ k) (MC_ByteReader_has_more : MCallee P w K mg base k "ByteReader" "has_more" P_ByteReader_has_more sp_ByteReader_has_more) (MY_ByteReader_take_sign : MCalleeY P w K mg base k "ByteReader" "take_sign" 1 sx_ByteReader_take_sign) (IC_ByteReader : ICallee P w K mg base kp "ByteReader" P_ByteReader___init__ sp_ByteReader___init__)  
    (F : FunD K "unpacked" "unpacked" (defArgs s_unpacked) (defBody s_unpacked) (defScope s_unpacked) [] [] f fd) (hm : mg "unpacked" = some (.ref f)) (len : ∀ ds G Q E, sp ds G Q E → ds.length = 1)
    (ok : ∀ ds G Q E, sp ds G Q E → (r_unpacked sx_require_usable sp_ByteReader_has_more sx_ByteReader_take_sign sp_ByteReader___init__) (fun x _ G' => E x G') { nx := fun _ G' => Q .non G', rt := Q } (startD 3 ds) G) : XCallee P w K mg base (k + 1) "unpacked" P_unpacked sp :=
  xcallee_of F hm (d_unpacked T X_require_usable hkp MC_ByteReader_has_more MY_ByteReader_take_sign IC_ByteReader F len ok) (fun _ _ _ _ _ _ us hl => match us, hl with | [_], _ => rfl) (fun _ _ _ _ _ _ us hl => match us, hl with | [_], _ => rfl)

abbrev N_require_paper : List Str := ["truth", "word", "at"]
abbrev P_require_paper : List Str := ["truth", "word", "at"]

theorem sc_require_paper : FnScope N_require_paper P_require_paper (defScope s_require_paper) := ⟨rfl, rfl, rfl, by decide +kernel, rfl, by decide +kernel, by decide +kernel⟩

theorem b_require_paper {P : Program} {w : World} {K : PySem.W.Frag} {mg : Str → Option Value} {base : Heap} {k : Nat} {f : Addr} (T : Tx P w K mg)         (hk2 : 2 ≤ k) (cdv : Value) (A : Around) (out : List Env) (st : Shared) (H : Hp) (E : XK)
    (hr : Room k (A.deeper (PyProof.Rows.envOfC "require_paper" (defScope s_require_paper) st.heap.objs.size f cdv))) (hgd : (A.deeper (PyProof.Rows.envOfC "require_paper" (defScope s_require_paper) st.heap.objs.size f cdv)).guards = some []) (tk : Takes (cxOf (L2.CX P w) P w K mg base N_require_paper "require_paper" (defScope s_require_paper) f cdv A out st H E) (fun c d _ H' => E c d H')) (hpo : PassesOwn (model P w) (A.deeper (PyProof.Rows.envOfC "require_paper" (defScope s_require_paper) st.heap.objs.size f cdv)) (PyProof.Rows.envOfC "require_paper" (defScope s_require_paper) st.heap.objs.size f cdv) (cxOf (L2.CX P w) P w K mg base N_require_paper "require_paper" (defScope s_require_paper) f cdv A out st H E).xe) :
    XSs (cxOf (L2.CX P w) P w K mg base N_require_paper "require_paper" (defScope s_require_paper) f cdv A out st H E) (fun c d _ H' => E c d H') (defBody s_require_paper) (r_require_paper) := by
  have SC := sc_require_paper
  have hu := hu_of hr
  have hu64 := hr.units
  have hu70 := hu70_of hr
  exact (xs_one (xs_if (xt_p (dt_not (dt_tru (dv 0))))
  (xs_one (xs_raise T.x_InvalidPaper rfl tk (hr.mono hk2) rfl (xa_p (da_cons (dv 1) (da_cons (dv 2) da_nil)))))
  (xss_p ds_nil)))

theorem d_require_paper {P : Program} {w : World} {K : PySem.W.Frag} {mg : Str → Option Value} {base : Heap} {k : Nat} {f : Addr} {fd : FuncData} {sp : DSp} (T : Tx P w K mg)         (hk2 : 2 ≤ k)
    (F : FunD K "require_paper" "require_paper" (defArgs s_require_paper) (defBody s_require_paper) (defScope s_require_paper) [] [] f fd) (len : ∀ ds G Q E, sp ds G Q E → ds.length = 3)
    (ok : ∀ ds G Q E, sp ds G Q E → (r_require_paper) (fun x _ G' => E x G') { nx := fun _ G' => Q .non G', rt := Q } (startD 3 ds) G) : XFn P w K mg base (k + 1) f fd P_require_paper sp :=
  xfn_of F sc_require_paper len (b_require_paper T hk2) ok

theorem k_require_paper {P : Program} {w : World} {K : PySem.W.Frag} {mg : Str → Option Value} {base : Heap} {k : Nat} {f : Addr} {fd : FuncData} {sp : DSp} (T : Tx P w K mg)         (hk2 : 2 ≤ k)
    (F : FunD K "require_paper" "require_paper" (defArgs s_require_paper) (defBody s_require_paper) (defScope s_require_paper) [] [] f fd) (hm : mg "require_paper" = some (.ref f)) (len : ∀ ds G Q E, sp ds G Q E → ds.length = 3)
    (ok : ∀ ds G Q E, sp ds G Q E → (r_require_paper) (fun x _ G' => E x G') { nx := fun _ G' => Q .non G', rt := Q } (startD 3 ds) G) : XCallee P w K mg base (k + 1) "require_paper" P_require_paper sp :=
  xcallee_of F hm (d_require_paper T hk2 F len ok) (fun _ _ _ _ _ _ us hl => match us, hl with | [_, _, _], _ => rfl) (fun _ _ _ _ _ _ us hl => match us, hl with | [_, _, _], _ => rfl)

abbrev N_lets_signs : List Str := ["thing", "k", "sign"]
abbrev P_lets_signs : List Str := ["thing"]

theorem sc_lets_signs : FnScope N_lets_signs P_lets_signs (defScope s_lets_signs) := ⟨rfl, rfl, rfl, by decide +kernel, rfl, by decide +kernel, by decide +kernel⟩

theorem b_lets_signs {P : Program} {w : World} {K : PySem.W.Frag} {mg : Str → Option Value} {base : Heap} {k : Nat} {f : Addr} (T : Tx P w K mg) {sp_is_sign : DSp} {sx_require_paper : DSp} (C_is_sign : Callee P w K mg base k "is_sign" P_is_sign sp_is_sign)  (X_require_paper : XCallee P w K mg base k "require_paper" P_require_paper sx_require_paper)    (cdv : Value) (A : Around) (out : List Env) (st : Shared) (H : Hp) (E : XK)
    (hr : Room k (A.deeper (PyProof.Rows.envOfC "lets_signs" (defScope s_lets_signs) st.heap.objs.size f cdv))) (hgd : (A.deeper (PyProof.Rows.envOfC "lets_signs" (defScope s_lets_signs) st.heap.objs.size f cdv)).guards = some []) (tk : Takes (cxOf (L2.CX P w) P w K mg base N_lets_signs "lets_signs" (defScope s_lets_signs) f cdv A out st H E) (fun c d _ H' => E c d H')) (hpo : PassesOwn (model P w) (A.deeper (PyProof.Rows.envOfC "lets_signs" (defScope s_lets_signs) st.heap.objs.size f cdv)) (PyProof.Rows.envOfC "lets_signs" (defScope s_lets_signs) st.heap.objs.size f cdv) (cxOf (L2.CX P w) P w K mg base N_lets_signs "lets_signs" (defScope s_lets_signs) f cdv A out st H E).xe) :
    XSs (cxOf (L2.CX P w) P w K mg base N_lets_signs "lets_signs" (defScope s_lets_signs) f cdv A out st H E) (fun c d _ H' => E c d H') (defBody s_lets_signs) (r_lets_signs sp_is_sign sx_require_paper) := by
  have SC := sc_lets_signs
  have hu := hu_of hr
  have hu64 := hr.units
  have hu70 := hu70_of hr
  exact (xs_cons (xs_expr (xc X_require_paper tk hr hgd rfl (xa_p (da_cons (de_isi (T := "tuple") (by decide) rfl T.m_isinstance rfl T.m_tuple (by decide +kernel) (dv 0)) (da_cons de_str (da_cons (de_neg de_int) da_nil))))))
  (xs_cons (xs_for hpo rfl (di_enumT rfl T.m_enumerate (dv 0)) (dg_tup rfl (dgs_cons (dg_name (i := 1) SC.nd rfl (by first | exact Or.inl rfl | exact Or.inr rfl)) (dgs_cons (dg_name (i := 2) SC.nd rfl (by first | exact Or.inl rfl | exact Or.inr rfl)) dgs_nil)))
  (xs_one (xs_expr (xc X_require_paper tk hr hgd rfl (xa_p (da_cons (dc C_is_sign hr hgd rfl (da_cons (dv 2) da_nil)) (da_cons de_str (da_cons (dv 1) da_nil))))))))
  (xs_one (xs_p (ds_ret (de_callB c_len rfl T.m_len PySem.boot_len (da_cons (dv 0) da_nil)))))))

theorem d_lets_signs {P : Program} {w : World} {K : PySem.W.Frag} {mg : Str → Option Value} {base : Heap} {k : Nat} {f : Addr} {fd : FuncData} {sp : DSp} (T : Tx P w K mg) {sp_is_sign : DSp} {sx_require_paper : DSp} (C_is_sign : Callee P w K mg base k "is_sign" P_is_sign sp_is_sign)  (X_require_paper : XCallee P w K mg base k "require_paper" P_require_paper sx_require_paper)   
    (F : FunD K "lets_signs" "lets_signs" (defArgs s_lets_signs) (defBody s_lets_signs) (defScope s_lets_signs) [] [] f fd) (len : ∀ ds G Q E, sp ds G Q E → ds.length = 1)
    (ok : ∀ ds G Q E, sp ds G Q E → (r_lets_signs sp_is_sign sx_require_paper) (fun x _ G' => E x G') { nx := fun _ G' => Q .non G', rt := Q } (startD 3 ds) G) : XFn P w K mg base (k + 1) f fd P_lets_signs sp :=
  xfn_of F sc_lets_signs len (b_lets_signs T C_is_sign X_require_paper) ok

theorem k_lets_signs {P : Program} {w : World} {K : PySem.W.Frag} {mg : Str → Option Value} {base : Heap} {k : Nat} {f : Addr} {fd : FuncData} {sp : DSp} (T : Tx P w K mg) {sp_is_sign : DSp} {sx_require_paper : DSp} (C_is_sign : Callee P w K mg base k "is_sign" P_is_sign sp_is_sign)  (X_require_paper : XCallee P w K mg base k "require_paper" P_require_paper sx_require_paper)   
    (F : FunD K "lets_signs" "lets_signs" (defArgs s_lets_signs) (defBody s_lets_signs) (defScope s_lets_signs) [] [] f fd) (hm : mg "lets_signs" = some (.ref f)) (len : ∀ ds G Q E, sp ds G Q E → ds.length = 1)
    (ok : ∀ ds G Q E, sp ds G Q E → (r_lets_signs sp_is_sign sx_require_paper) (fun x _ G' => E x G') { nx := fun _ G' => Q .non G', rt := Q } (startD 3 ds) G) : XCallee P w K mg base (k + 1) "lets_signs" P_lets_signs sp :=
  xcallee_of F hm (d_lets_signs T C_is_sign X_require_paper F len ok) (fun _ _ _ _ _ _ us hl => match us, hl with | [_], _ => rfl) (fun _ _ _ _ _ _ us hl => match us, hl with | [_], _ => rfl)

abbrev N_law_feed : List Str := ["_law_script"]
abbrev P_law_feed : List Str := ["_law_script"]

theorem sc_law_feed : FnScope N_law_feed P_law_feed (defScope s_law_feed) := ⟨rfl, rfl, rfl, by decide +kernel, rfl, by decide +kernel, by decide +kernel⟩

theorem b_law_feed {P : Program} {w : World} {K : PySem.W.Frag} {mg : Str → Option Value} {base : Heap} {k : Nat} {f : Addr} (T : Tx P w K mg)    (cdv : Value) (A : Around) (out : List Env) (st : Shared) (H : Hp) (E : XK)
    (hr : Room k (A.deeper (PyProof.Rows.envOfC "_law_feed" (defScope s_law_feed) st.heap.objs.size f cdv))) (hgd : (A.deeper (PyProof.Rows.envOfC "_law_feed" (defScope s_law_feed) st.heap.objs.size f cdv)).guards = some []) :
    DSs (cxOf CX0 P w K mg base N_law_feed "_law_feed" (defScope s_law_feed) f cdv A out st H E).nox (defBody s_law_feed) (r_law_feed) := by
  have SC := sc_law_feed
  have hu := hu_of hr
  have hu64 := hr.units
  have hu70 := hu70_of hr
  exact (ds_one (ds_ret (de_disp (dps_cons de_str (de_frz (de_callTy c_list rfl T.m_list (by decide +kernel) (da_cons (de_frz (de_slice (dv 0) do_none (do_some de_int))) da_nil))) (dps_cons de_str de_int (dps_cons de_str de_int (dps_cons de_str de_int dps_nil)))))))

theorem d_law_feed {P : Program} {w : World} {K : PySem.W.Frag} {mg : Str → Option Value} {base : Heap} {k : Nat} {f : Addr} {fd : FuncData} {sp : DSp} (T : Tx P w K mg)   
    (F : FunD K "_law_feed" "_law_feed" (defArgs s_law_feed) (defBody s_law_feed) (defScope s_law_feed) [] [] f fd) (len : ∀ ds G Q E, sp ds G Q E → ds.length = 1)
    (ok : ∀ ds G Q E, sp ds G Q E → (r_law_feed) { nx := fun _ G' => Q .non G', rt := Q } (startD 1 ds) G) : DFn P w K mg base (k + 1) f fd P_law_feed sp :=
  dfn_of F sc_law_feed len (b_law_feed T) ok

theorem k_law_feed {P : Program} {w : World} {K : PySem.W.Frag} {mg : Str → Option Value} {base : Heap} {k : Nat} {f : Addr} {fd : FuncData} {sp : DSp} (T : Tx P w K mg)   
    (F : FunD K "_law_feed" "_law_feed" (defArgs s_law_feed) (defBody s_law_feed) (defScope s_law_feed) [] [] f fd) (hm : mg "_law_feed" = some (.ref f)) (len : ∀ ds G Q E, sp ds G Q E → ds.length = 1)
    (ok : ∀ ds G Q E, sp ds G Q E → (r_law_feed) { nx := fun _ G' => Q .non G', rt := Q } (startD 1 ds) G) : Callee P w K mg base (k + 1) "_law_feed" P_law_feed sp :=
  callee_of F hm (d_law_feed T F len ok) (fun _ _ _ _ _ _ us hl => match us, hl with | [_], _ => rfl) (fun _ _ _ _ _ _ us hl => match us, hl with | [_], _ => rfl)

abbrev N_law_draw : List Str := ["_law_feed_here", "_law_many", "_law_digit", "_law_spot", "_law_cell", "_law_mixed"]
abbrev P_law_draw : List Str := ["_law_feed_here", "_law_many"]

theorem sc_law_draw : FnScope N_law_draw P_law_draw (defScope s_law_draw) := ⟨rfl, rfl, rfl, by decide +kernel, rfl, by decide +kernel, by decide +kernel⟩

theorem b_law_draw {P : Program} {w : World} {K : PySem.W.Frag} {mg : Str → Option Value} {base : Heap} {k : Nat} {f : Addr} (T : Tx P w K mg)    (cdv : Value) (A : Around) (out : List Env) (st : Shared) (H : Hp) (E : XK)
    (hr : Room k (A.deeper (PyProof.Rows.envOfC "_law_draw" (defScope s_law_draw) st.heap.objs.size f cdv))) (hgd : (A.deeper (PyProof.Rows.envOfC "_law_draw" (defScope s_law_draw) st.heap.objs.size f cdv)).guards = some []) :
    DSs (cxOf CX0 P w K mg base N_law_draw "_law_draw" (defScope s_law_draw) f cdv A out st H E).nox (defBody s_law_draw) (r_law_draw) := by
  have SC := sc_law_draw
  have hu := hu_of hr
  have hu64 := hr.units
  have hu70 := hu70_of hr
  exact (ds_cons (ds_asg (de_op o_add (de_dget hu (dv 0) de_str) de_int) (dg_sub (dv 0) de_str (set_dct hu)))
  (ds_cons (ds_if (dt_cmp o_gt (de_dget hu (dv 0) de_str) de_int (nomark _))
  (ds_cons (ds_set (i := 2) SC.nd rfl (by first | exact Or.inl rfl | exact Or.inr rfl) (de_op o_mod (de_callTy c_int rfl T.m_int (by decide +kernel) (da_cons (de_dget hu (dv 0) de_str) da_nil)) (dv 1)))
  (ds_cons (ds_asg (de_op o_fdiv (de_dget hu (dv 0) de_str) (dv 1)) (dg_sub (dv 0) de_str (set_dct hu)))
  (ds_one (ds_ret (dv 2)))))
  ds_nil)
  (ds_cons (ds_set (i := 3) SC.nd rfl (by first | exact Or.inl rfl | exact Or.inr rfl) (de_dget hu (dv 0) de_str))
  (ds_cons (ds_asg (de_op o_add (dv 3) de_int) (dg_sub (dv 0) de_str (set_dct hu)))
  (ds_cons (ds_set (i := 4) SC.nd rfl (by first | exact Or.inl rfl | exact Or.inr rfl) (de_if (dt_cmp (o_ne hu64) (de_dget hu (dv 0) de_str) (de_frz (de_lst da_nil)) (nomark _)) (de_ix (de_dget hu (dv 0) de_str) (de_op o_mod (de_callTy c_int rfl T.m_int (by decide +kernel) (da_cons (dv 3) da_nil)) (de_callB c_len rfl T.m_len PySem.boot_len (da_cons (de_dget hu (dv 0) de_str) da_nil)))) de_int))
  (ds_cons (ds_if (dt_w (dw_and (dt_cmp o_ge (dv 4) (de_op o_pow de_int de_int) (nomark _)) (dw_and1 (dt_cmp o_lt (dv 3) (de_callB c_len rfl T.m_len PySem.boot_len (da_cons (de_dget hu (dv 0) de_str) da_nil)) (nomark _)))))
  (ds_cons (ds_asg (de_op o_fdiv (dv 4) (dv 1)) (dg_sub (dv 0) de_str (set_dct hu)))
  (ds_one (ds_ret (de_op o_mod (de_callTy c_int rfl T.m_int (by decide +kernel) (da_cons (dv 4) da_nil)) (dv 1)))))
  ds_nil)
  (ds_cons (ds_set (i := 5) SC.nd rfl (by first | exact Or.inl rfl | exact Or.inr rfl) (de_op o_mod (de_callTy c_int rfl T.m_int (by decide +kernel) (da_cons (de_op o_add (de_op o_add (de_op o_mod (de_callTy c_int rfl T.m_int (by decide +kernel) (da_cons (dv 4) da_nil)) de_int) (de_op o_mul de_int (de_dget hu (dv 0) de_str))) de_int) da_nil)) de_int))
  (ds_cons (ds_set (i := 5) SC.nd rfl (by first | exact Or.inl rfl | exact Or.inr rfl) (de_op o_mod (de_callTy c_int rfl T.m_int (by decide +kernel) (da_cons (de_op o_add (de_op o_add (de_op o_mul (dv 5) (dv 5)) (de_op o_mul de_int (de_dget hu (dv 0) de_str))) de_int) da_nil)) de_int))
  (ds_one (ds_ret (de_op o_mod (de_callTy c_int rfl T.m_int (by decide +kernel) (da_cons (de_op o_fdiv (de_op o_mod (de_callTy c_int rfl T.m_int (by decide +kernel) (da_cons (de_op o_add (de_op o_mul (dv 5) (dv 5)) (de_op o_mul de_int (dv 5))) da_nil)) de_int) de_int) da_nil)) (dv 1))))))))))))

theorem d_law_draw {P : Program} {w : World} {K : PySem.W.Frag} {mg : Str → Option Value} {base : Heap} {k : Nat} {f : Addr} {fd : FuncData} {sp : DSp} (T : Tx P w K mg)   
    (F : FunD K "_law_draw" "_law_draw" (defArgs s_law_draw) (defBody s_law_draw) (defScope s_law_draw) [] [] f fd) (len : ∀ ds G Q E, sp ds G Q E → ds.length = 2)
    (ok : ∀ ds G Q E, sp ds G Q E → (r_law_draw) { nx := fun _ G' => Q .non G', rt := Q } (startD 6 ds) G) : DFn P w K mg base (k + 1) f fd P_law_draw sp :=
  dfn_of F sc_law_draw len (b_law_draw T) ok

theorem k_law_draw {P : Program} {w : World} {K : PySem.W.Frag} {mg : Str → Option Value} {base : Heap} {k : Nat} {f : Addr} {fd : FuncData} {sp : DSp} (T : Tx P w K mg)   
    (F : FunD K "_law_draw" "_law_draw" (defArgs s_law_draw) (defBody s_law_draw) (defScope s_law_draw) [] [] f fd) (hm : mg "_law_draw" = some (.ref f)) (len : ∀ ds G Q E, sp ds G Q E → ds.length = 2)
    (ok : ∀ ds G Q E, sp ds G Q E → (r_law_draw) { nx := fun _ G' => Q .non G', rt := Q } (startD 6 ds) G) : Callee P w K mg base (k + 1) "_law_draw" P_law_draw sp :=
  callee_of F hm (d_law_draw T F len ok) (fun _ _ _ _ _ _ us hl => match us, hl with | [_, _], _ => rfl) (fun _ _ _ _ _ _ us hl => match us, hl with | [_, _], _ => rfl)

abbrev N_law_sign : List Str := ["_law_feed_here", "_law_deep", "_law_turn_in", "_law_number"]
abbrev P_law_sign : List Str := ["_law_feed_here", "_law_deep"]

theorem sc_law_sign : FnScope N_law_sign P_law_sign (defScope s_law_sign) := ⟨rfl, rfl, rfl, by decide +kernel, rfl, by decide +kernel, by decide +kernel⟩

theorem b_law_sign {P : Program} {w : World} {K : PySem.W.Frag} {mg : Str → Option Value} {base : Heap} {k : Nat} {f : Addr} (T : Tx P w K mg) {sp_law_sign : DSp} {sp_law_draw : DSp} (C_law_sign : Callee P w K mg base k "_law_sign" P_law_sign sp_law_sign) (C_law_draw : Callee P w K mg base k "_law_draw" P_law_draw sp_law_draw)  (cdv : Value) (A : Around) (out : List Env) (st : Shared) (H : Hp) (E : XK)
    (hr : Room k (A.deeper (PyProof.Rows.envOfC "_law_sign" (defScope s_law_sign) st.heap.objs.size f cdv))) (hgd : (A.deeper (PyProof.Rows.envOfC "_law_sign" (defScope s_law_sign) st.heap.objs.size f cdv)).guards = some []) :
    DSs (cxOf CX0 P w K mg base N_law_sign "_law_sign" (defScope s_law_sign) f cdv A out st H E).nox (defBody s_law_sign) (r_law_sign sp_law_sign sp_law_draw) := by
  have SC := sc_law_sign
  have hu := hu_of hr
  have hu64 := hr.units
  have hu70 := hu70_of hr
  exact (ds_cons (ds_set (i := 2) SC.nd rfl (by first | exact Or.inl rfl | exact Or.inr rfl) (dc C_law_draw hr hgd rfl (da_cons (dv 0) (da_cons (de_if (dt_cmp o_gt (dv 1) de_int (nomark _)) de_int de_int) da_nil))))
  (ds_cons (ds_if (dt_cmp o_lt (dv 2) de_int (nomark _))
  (ds_one (ds_ret (de_ix (de_frz (de_lst (da_cons de_str (da_cons de_str (da_cons de_str (da_cons de_str da_nil)))))) (dv 2))))
  ds_nil)
  (ds_cons (ds_if (dt_cmp o_lt (dv 2) de_int (nomark _))
  (ds_cons (ds_set (i := 3) SC.nd rfl (by first | exact Or.inl rfl | exact Or.inr rfl) (de_ix (de_frz (de_lst (da_cons de_int (da_cons de_int (da_cons de_int (da_cons de_int (da_cons de_int (da_cons de_int (da_cons de_int da_nil))))))))) (dc C_law_draw hr hgd rfl (da_cons (dv 0) (da_cons de_int da_nil)))))
  (ds_one (ds_ret (de_tup (da_cons (de_ix (de_frz (de_lst (da_cons de_str (da_cons de_str da_nil)))) (de_op o_mod (de_callTy c_int rfl T.m_int (by decide +kernel) (da_cons (dv 2) da_nil)) de_int)) (da_cons (dv 3) da_nil))))))
  ds_nil)
  (ds_one (ds_ret (de_tup (da_cons (de_ix (de_frz (de_lst (da_cons de_str (da_cons de_str da_nil)))) (de_op o_sub (dv 2) de_int)) (da_cons (dc C_law_sign hr hgd rfl (da_cons (dv 0) (da_cons (de_op o_sub (dv 1) de_int) da_nil))) da_nil))))))))

theorem d_law_sign {P : Program} {w : World} {K : PySem.W.Frag} {mg : Str → Option Value} {base : Heap} {k : Nat} {f : Addr} {fd : FuncData} {sp : DSp} (T : Tx P w K mg) {sp_law_sign : DSp} {sp_law_draw : DSp} (C_law_sign : Callee P w K mg base k "_law_sign" P_law_sign sp_law_sign) (C_law_draw : Callee P w K mg base k "_law_draw" P_law_draw sp_law_draw) 
    (F : FunD K "_law_sign" "_law_sign" (defArgs s_law_sign) (defBody s_law_sign) (defScope s_law_sign) [] [] f fd) (len : ∀ ds G Q E, sp ds G Q E → ds.length = 2)
    (ok : ∀ ds G Q E, sp ds G Q E → (r_law_sign sp_law_sign sp_law_draw) { nx := fun _ G' => Q .non G', rt := Q } (startD 4 ds) G) : DFn P w K mg base (k + 1) f fd P_law_sign sp :=
  dfn_of F sc_law_sign len (b_law_sign T C_law_sign C_law_draw) ok

theorem k_law_sign {P : Program} {w : World} {K : PySem.W.Frag} {mg : Str → Option Value} {base : Heap} {k : Nat} {f : Addr} {fd : FuncData} {sp : DSp} (T : Tx P w K mg) {sp_law_sign : DSp} {sp_law_draw : DSp} (C_law_sign : Callee P w K mg base k "_law_sign" P_law_sign sp_law_sign) (C_law_draw : Callee P w K mg base k "_law_draw" P_law_draw sp_law_draw) 
    (F : FunD K "_law_sign" "_law_sign" (defArgs s_law_sign) (defBody s_law_sign) (defScope s_law_sign) [] [] f fd) (hm : mg "_law_sign" = some (.ref f)) (len : ∀ ds G Q E, sp ds G Q E → ds.length = 2)
    (ok : ∀ ds G Q E, sp ds G Q E → (r_law_sign sp_law_sign sp_law_draw) { nx := fun _ G' => Q .non G', rt := Q } (startD 4 ds) G) : Callee P w K mg base (k + 1) "_law_sign" P_law_sign sp :=
  callee_of F hm (d_law_sign T C_law_sign C_law_draw F len ok) (fun _ _ _ _ _ _ us hl => match us, hl with | [_, _], _ => rfl) (fun _ _ _ _ _ _ us hl => match us, hl with | [_, _], _ => rfl)

theorem z_law_sign {P : Program} {w : World} {K : PySem.W.Frag} {mg : Str → Option Value} {base : Heap} {f : Addr} {fd : FuncData} {sp : DSp} (F : FunD K "_law_sign" "_law_sign" (defArgs s_law_sign) (defBody s_law_sign) (defScope s_law_sign) [] [] f fd) (hm : mg "_law_sign" = some (.ref f)) (h : ∀ ds G Q E, ¬ sp ds G Q E) : Callee P w K mg base 0 "_law_sign" P_law_sign sp :=
  callee0 F hm h (fun _ _ _ _ _ _ us hl => match us, hl with | [_, _], _ => rfl) (fun _ _ _ _ _ _ us hl => match us, hl with | [_, _], _ => rfl)

abbrev N_law_signs : List Str := ["_law_feed_here", "_law_most_in", "_law_found", "_law_k"]
abbrev P_law_signs : List Str := ["_law_feed_here", "_law_most_in"]

theorem sc_law_signs : FnScope N_law_signs P_law_signs (defScope s_law_signs) := ⟨rfl, rfl, rfl, by decide +kernel, rfl, by decide +kernel, by decide +kernel⟩

theorem b_law_signs {P : Program} {w : World} {K : PySem.W.Frag} {mg : Str → Option Value} {base : Heap} {k : Nat} {f : Addr} (T : Tx P w K mg) {sp_law_draw : DSp} {sp_law_sign : DSp} (C_law_draw : Callee P w K mg base k "_law_draw" P_law_draw sp_law_draw) (C_law_sign : Callee P w K mg base k "_law_sign" P_law_sign sp_law_sign)  (cdv : Value) (A : Around) (out : List Env) (st : Shared) (H : Hp) (E : XK)
    (hr : Room k (A.deeper (PyProof.Rows.envOfC "_law_signs" (defScope s_law_signs) st.heap.objs.size f cdv))) (hgd : (A.deeper (PyProof.Rows.envOfC "_law_signs" (defScope s_law_signs) st.heap.objs.size f cdv)).guards = some []) :
    DSs (cxOf CX0 P w K mg base N_law_signs "_law_signs" (defScope s_law_signs) f cdv A out st H E).nox (defBody s_law_signs) (r_law_signs sp_law_draw sp_law_sign) := by
  have SC := sc_law_signs
  have hu := hu_of hr
  have hu64 := hr.units
  have hu70 := hu70_of hr
  exact (ds_cons (ds_set (i := 2) SC.nd rfl (by first | exact Or.inl rfl | exact Or.inr rfl) (de_lst da_nil))
  (ds_cons (ds_for PassesOwn.never rfl (di_range1 rfl T.m_range (da_cons (dc C_law_draw hr hgd rfl (da_cons (dv 0) (da_cons (de_op o_add (dv 1) de_int) da_nil))) da_nil)) (dg_name (i := 3) SC.nd rfl (by first | exact Or.inl rfl | exact Or.inr rfl))
  (ds_cons (ds_expr (de_append (dv 2) (dc C_law_sign hr hgd rfl (da_cons (dv 0) (da_cons de_int da_nil)))))
  (ds_one (ds_if (dt_cmp (o_eq hu64) (dc C_law_draw hr hgd rfl (da_cons (dv 0) (da_cons de_int da_nil))) de_int (nomark _))
  (ds_one (ds_expr (de_append (dv 2) (de_ix (dv 2) (dc C_law_draw hr hgd rfl (da_cons (dv 0) (da_cons (de_callB c_len rfl T.m_len PySem.boot_len (da_cons (dv 2) da_nil)) da_nil)))))))
  ds_nil))))
  (ds_one (ds_ret (de_callTy c_tuple rfl T.m_tuple (by decide +kernel) (da_cons (de_frz (de_slice (dv 2) do_none (do_some (dv 1)))) da_nil))))))

theorem d_law_signs {P : Program} {w : World} {K : PySem.W.Frag} {mg : Str → Option Value} {base : Heap} {k : Nat} {f : Addr} {fd : FuncData} {sp : DSp} (T : Tx P w K mg) {sp_law_draw : DSp} {sp_law_sign : DSp} (C_law_draw : Callee P w K mg base k "_law_draw" P_law_draw sp_law_draw) (C_law_sign : Callee P w K mg base k "_law_sign" P_law_sign sp_law_sign) 
    (F : FunD K "_law_signs" "_law_signs" (defArgs s_law_signs) (defBody s_law_signs) (defScope s_law_signs) [] [] f fd) (len : ∀ ds G Q E, sp ds G Q E → ds.length = 2)
    (ok : ∀ ds G Q E, sp ds G Q E → (r_law_signs sp_law_draw sp_law_sign) { nx := fun _ G' => Q .non G', rt := Q } (startD 4 ds) G) : DFn P w K mg base (k + 1) f fd P_law_signs sp :=
  dfn_of F sc_law_signs len (b_law_signs T C_law_draw C_law_sign) ok

theorem k_law_signs {P : Program} {w : World} {K : PySem.W.Frag} {mg : Str → Option Value} {base : Heap} {k : Nat} {f : Addr} {fd : FuncData} {sp : DSp} (T : Tx P w K mg) {sp_law_draw : DSp} {sp_law_sign : DSp} (C_law_draw : Callee P w K mg base k "_law_draw" P_law_draw sp_law_draw) (C_law_sign : Callee P w K mg base k "_law_sign" P_law_sign sp_law_sign) 
    (F : FunD K "_law_signs" "_law_signs" (defArgs s_law_signs) (defBody s_law_signs) (defScope s_law_signs) [] [] f fd) (hm : mg "_law_signs" = some (.ref f)) (len : ∀ ds G Q E, sp ds G Q E → ds.length = 2)
    (ok : ∀ ds G Q E, sp ds G Q E → (r_law_signs sp_law_draw sp_law_sign) { nx := fun _ G' => Q .non G', rt := Q } (startD 4 ds) G) : Callee P w K mg base (k + 1) "_law_signs" P_law_signs sp :=
  callee_of F hm (d_law_signs T C_law_draw C_law_sign F len ok) (fun _ _ _ _ _ _ us hl => match us, hl with | [_, _], _ => rfl) (fun _ _ _ _ _ _ us hl => match us, hl with | [_, _], _ => rfl)

abbrev N_law_heard : List Str := ["_law_ask", "e_in", "_law_families", "_law_good"]
abbrev P_law_heard : List Str := ["_law_ask"]

theorem sc_law_heard : FnScope N_law_heard P_law_heard (defScope s_law_heard) := ⟨rfl, rfl, rfl, by decide +kernel, rfl, by decide +kernel, by decide +kernel⟩

theorem b_law_heard {P : Program} {w : World} {K : PySem.W.Frag} {mg : Str → Option Value} {base : Heap} {k : Nat} {g : Addr} (T : Tx P w K mg)         (cdv : Value) (A : Around) (out : List Env) (st : Shared) (H : Hp) (α : Dl.Act)
    (hr : Room (k + 1) (A.deeper (PyProof.Rows.envOfC "_law_heard" (defScope s_law_heard) st.heap.objs.size g cdv))) (hgd : (A.deeper (PyProof.Rows.envOfC "_law_heard" (defScope s_law_heard) st.heap.objs.size g cdv)).guards = some [])
    (act : ∀ (W : WX) (pn : List (Addr × Obj)) (xe : Value → Shared → Prop) (p1 p2 : Pos), Takes ((cxOf CX0 P w K mg base N_law_heard "_law_heard" (defScope s_law_heard) g cdv A out st H E0).tr pn xe) W → XE1 ((cxOf CX0 P w K mg base N_law_heard "_law_heard" (defScope s_law_heard) g cdv A out st H E0).tr pn xe) W (.Call (.Name "_law_ask" p1) [] [] p2) (xAct 0 α)) :
    DSs (cxOf CX0 P w K mg base N_law_heard "_law_heard" (defScope s_law_heard) g cdv A out st H E0).nox (defBody s_law_heard) (r_law_heard α) := by
  have SC := sc_law_heard
  have hu := hu_of hr
  have hu64 := hr.units
  have hu70 := hu70_of hr
  exact (ds_one (ds_try T.et rfl rfl SC.nd rfl (i := 1) rfl rfl T.g_BarError (by decide) (fun W pn xe tk _ => (xs_one (xs_ret (xe_tup (xa_cons (xe_p de_str) (xa_cons (act W pn xe _ _ tk) (xa_p da_nil))))))) (fun a oe c d pn hz hf =>
  (ds_cons (ds_set (i := 2) SC.nd rfl (by first | exact Or.inl rfl | exact Or.inr rfl) (de_lst (da_cons (de_isX T.et hz hf rfl T.m_isinstance rfl T.g_PaperError (dv 1)) (da_cons (de_isX T.et hz hf rfl T.m_isinstance rfl T.g_WorkError (dv 1)) da_nil))))
  (ds_cons (ds_expr (de_extend (dv 2) (de_frz (de_lst (da_cons (de_isX T.et hz hf rfl T.m_isinstance rfl T.g_LiveError (dv 1)) (da_cons (de_isX T.et hz hf rfl T.m_isinstance rfl T.g_TextError (dv 1)) da_nil))))))
  (ds_cons (ds_if (dt_w (dw_and (dt_cmp (o_eq hu64) (dv 2) (de_frz (de_lst (da_cons de_bl (da_cons de_bl (da_cons de_bl (da_cons de_bl da_nil)))))) (nomark _)) (dw_and1 (dt_tru (de_isX T.et hz hf rfl T.m_isinstance rfl T.g_InvalidPaper (dv 1))))))
  (ds_one (ds_ret (de_tup (da_cons de_str (da_cons (de_exfA T.et hz hf (dv 1)) (da_cons (de_exfA T.et hz hf (dv 1)) da_nil))))))
  ds_nil)
  (ds_cons (ds_if (dt_cmp (o_eq hu64) (dv 2) (de_frz (de_lst (da_cons de_bl (da_cons de_bl (da_cons de_bl (da_cons de_bl da_nil)))))) (nomark _))
  (ds_cons (ds_set (i := 3) SC.nd rfl (by first | exact Or.inl rfl | exact Or.inr rfl) (de_and (de_isX T.et hz hf rfl T.m_isinstance rfl T.g_InvalidText (dv 1)) (de_one (de_not (de_isX T.et hz hf rfl T.m_isinstance rfl T.g_InvalidRow (dv 1))))))
  (ds_one (ds_ret (de_if (dt_tru (dv 3)) (de_tup (da_cons de_str (da_cons (de_exfA T.et hz hf (dv 1)) (da_cons (de_exfA T.et hz hf (dv 1)) da_nil)))) (de_tup (da_cons de_str da_nil))))))
  ds_nil)
  (ds_cons (ds_if (dt_w (dw_or (dt_cmp (o_ne hu64) (dv 2) (de_frz (de_lst (da_cons de_bl (da_cons de_bl (da_cons de_bl (da_cons de_bl da_nil)))))) (nomark _)) (dw_or1 (dt_tru (de_isX T.et hz hf rfl T.m_isinstance rfl T.g_NotNext (dv 1))))))
  (ds_one (ds_ret (de_tup (da_cons de_str da_nil))))
  ds_nil)
  (ds_one (ds_ret (de_if (dt_tru (de_isX T.et hz hf rfl T.m_isinstance rfl T.g_NotUsable (dv 1))) (de_tup (da_cons de_str (da_cons (de_exfA T.et hz hf (dv 1)) (da_cons (de_exfA T.et hz hf (dv 1)) da_nil)))) (de_tup (da_cons de_str da_nil)))))))))))))

theorem k_law_heard {P : Program} {w : World} {K : PySem.W.Frag} {mg : Str → Option Value} {base : Heap} {k : Nat} {g : Addr} {fd : FuncData} (T : Tx P w K mg)        
    (F : FunD K "_law_heard" "_law_heard" (defArgs s_law_heard) (defBody s_law_heard) (defScope s_law_heard) [] [] g fd) (hm : mg "_law_heard" = some (.ref g)) : Hearer P w K mg base k "_law_heard" r_law_heard 4 :=
  hearer_of F hm sc_law_heard rfl (by first | exact Or.inl rfl | exact Or.inr (Or.inl rfl)) (b_law_heard T) (fun _ _ _ _ _ _ us hl => match us, hl with | [_], _ => rfl)

abbrev N_law_order_right : List Str := ["_law_rows", "_law_one", "_law_two", "_law_told", "_law_late"]
abbrev P_law_order_right : List Str := ["_law_rows"]

theorem sc_law_order_right : FnScope N_law_order_right P_law_order_right (defScope s_law_order_right) := ⟨rfl, rfl, rfl, by decide +kernel, rfl, by decide +kernel, by decide +kernel⟩

theorem b_law_order_right {P : Program} {w : World} {K : PySem.W.Frag} {mg : Str → Option Value} {base : Heap} {k : Nat} {f : Addr} (T : Tx P w K mg) {sp_is_ahead : DSp} (C_is_ahead : Callee P w K mg base k "is_ahead" P_is_ahead sp_is_ahead)  (cdv : Value) (A : Around) (out : List Env) (st : Shared) (H : Hp) (E : XK)
    (hr : Room k (A.deeper (PyProof.Rows.envOfC "_law_order_right" (defScope s_law_order_right) st.heap.objs.size f cdv))) (hgd : (A.deeper (PyProof.Rows.envOfC "_law_order_right" (defScope s_law_order_right) st.heap.objs.size f cdv)).guards = some []) :
    DSs (cxOf CX0 P w K mg base N_law_order_right "_law_order_right" (defScope s_law_order_right) f cdv A out st H E).nox (defBody s_law_order_right) (r_law_order_right sp_is_ahead) := by
  have SC := sc_law_order_right
  have hu := hu_of hr
  have hu64 := hr.units
  have hu70 := hu70_of hr
  exact (ds_cons (ds_for PassesOwn.never rfl (di_seq (dv 0)) (dg_name (i := 1) SC.nd rfl (by first | exact Or.inl rfl | exact Or.inr rfl))
  (ds_one (ds_for PassesOwn.never rfl (di_seq (dv 0)) (dg_name (i := 2) SC.nd rfl (by first | exact Or.inl rfl | exact Or.inr rfl))
  (ds_cons (ds_set (i := 3) SC.nd rfl (by first | exact Or.inl rfl | exact Or.inr rfl) (de_frz (de_lst (da_cons (dc C_is_ahead hr hgd rfl (da_cons (dv 1) (da_cons (dv 2) da_nil))) (da_cons (dc C_is_ahead hr hgd rfl (da_cons (dv 2) (da_cons (dv 1) da_nil))) da_nil)))))
  (ds_cons (ds_if (dt_w (dw_or (dt_cmp (o_ne hu64) (de_cmp (o_eq hu64) (dv 1) (dv 2) (nomark _)) (de_cmp (o_eq hu64) (dv 3) (de_frz (de_lst (da_cons de_bl (da_cons de_bl da_nil)))) (nomark _)) (nomark _)) (dw_or1 (dt_cmp (o_eq hu64) (dv 3) (de_frz (de_lst (da_cons de_bl (da_cons de_bl da_nil)))) (nomark _)))))
  (ds_one (ds_ret de_bl))
  ds_nil)
  (ds_cons (ds_if (dt_w (dw_and (dt_cmp o_gt (de_callB c_len rfl T.m_len PySem.boot_len (da_cons (dv 2) da_nil)) (de_callB c_len rfl T.m_len PySem.boot_len (da_cons (dv 1) da_nil)) (nomark _)) (dw_and (dt_cmp (o_eq hu64) (de_slice (dv 2) do_none (do_some (de_callB c_len rfl T.m_len PySem.boot_len (da_cons (dv 1) da_nil)))) (dv 1) (nomark _)) (dw_and1 (dt_not (dt_tru (de_ix (dv 3) de_int)))))))
  (ds_one (ds_ret de_bl))
  ds_nil)
  (ds_cons (ds_if (dt_cmp (o_ne hu64) (dc C_is_ahead hr hgd rfl (da_cons (de_op o_add (de_tup (da_cons de_str da_nil)) (dv 1)) (da_cons (de_op o_add (de_tup (da_cons de_str da_nil)) (dv 2)) da_nil))) (de_ix (dv 3) de_int) (nomark _))
  (ds_one (ds_ret de_bl))
  ds_nil)
  (ds_one (ds_if (dt_cmp (o_ne hu64) (de_frz (de_lc (own := [("_law_late", 4)]) (ct := (.one 4)) rfl SC.nd (di_seq (dv 0)) (blkOk_by (by show blkC N_law_order_right (defScope s_law_order_right) _ _ = true; decide +kernel)) (by decide) (fun _ _ _ _ _ => pg_name (i := 4) SC.nd rfl (Or.inl rfl)) (fun _ _ _ _ _ => (dts_one (dt_w (dw_and (dt_tru (de_ix (dv 3) de_int)) (dw_and (dt_tru (dc C_is_ahead hr hgd rfl (da_cons (dv 2) (da_cons (dv 4) da_nil)))) (dw_and1 (dt_not (dt_tru (dc C_is_ahead hr hgd rfl (da_cons (dv 1) (da_cons (dv 4) da_nil))))))))))) (fun _ _ _ _ _ => (dv 4)))) (de_frz (de_lst da_nil)) (nomark _))
  (ds_one (ds_ret de_bl))
  ds_nil)))))))))
  (ds_one (ds_ret de_bl)))

theorem d_law_order_right {P : Program} {w : World} {K : PySem.W.Frag} {mg : Str → Option Value} {base : Heap} {k : Nat} {f : Addr} {fd : FuncData} {sp : DSp} (T : Tx P w K mg) {sp_is_ahead : DSp} (C_is_ahead : Callee P w K mg base k "is_ahead" P_is_ahead sp_is_ahead) 
    (F : FunD K "_law_order_right" "_law_order_right" (defArgs s_law_order_right) (defBody s_law_order_right) (defScope s_law_order_right) [] [] f fd) (len : ∀ ds G Q E, sp ds G Q E → ds.length = 1)
    (ok : ∀ ds G Q E, sp ds G Q E → (r_law_order_right sp_is_ahead) { nx := fun _ G' => Q .non G', rt := Q } (startD 5 ds) G) : DFn P w K mg base (k + 1) f fd P_law_order_right sp :=
  dfn_of F sc_law_order_right len (b_law_order_right T C_is_ahead) ok

theorem k_law_order_right {P : Program} {w : World} {K : PySem.W.Frag} {mg : Str → Option Value} {base : Heap} {k : Nat} {f : Addr} {fd : FuncData} {sp : DSp} (T : Tx P w K mg) {sp_is_ahead : DSp} (C_is_ahead : Callee P w K mg base k "is_ahead" P_is_ahead sp_is_ahead) 
    (F : FunD K "_law_order_right" "_law_order_right" (defArgs s_law_order_right) (defBody s_law_order_right) (defScope s_law_order_right) [] [] f fd) (hm : mg "_law_order_right" = some (.ref f)) (len : ∀ ds G Q E, sp ds G Q E → ds.length = 1)
    (ok : ∀ ds G Q E, sp ds G Q E → (r_law_order_right sp_is_ahead) { nx := fun _ G' => Q .non G', rt := Q } (startD 5 ds) G) : Callee P w K mg base (k + 1) "_law_order_right" P_law_order_right sp :=
  callee_of F hm (d_law_order_right T C_is_ahead F len ok) (fun _ _ _ _ _ _ us hl => match us, hl with | [_], _ => rfl) (fun _ _ _ _ _ _ us hl => match us, hl with | [_], _ => rfl)

abbrev N_law_sorted_right : List Str := ["_law_row_in", "_law_some", "_law_item", "_law_k", "_law_late"]
abbrev P_law_sorted_right : List Str := ["_law_row_in"]

theorem sc_law_sorted_right : FnScope N_law_sorted_right P_law_sorted_right (defScope s_law_sorted_right) := ⟨rfl, rfl, rfl, by decide +kernel, rfl, by decide +kernel, by decide +kernel⟩

theorem b_law_sorted_right {P : Program} {w : World} {K : PySem.W.Frag} {mg : Str → Option Value} {base : Heap} {k : Nat} {f : Addr} (T : Tx P w K mg) {sp_sorted_signs : DSp} {sp_is_ahead : DSp} (C_sorted_signs : Callee P w K mg base k "sorted_signs" P_sorted_signs sp_sorted_signs) (C_is_ahead : Callee P w K mg base k "is_ahead" P_is_ahead sp_is_ahead)  (cdv : Value) (A : Around) (out : List Env) (st : Shared) (H : Hp) (E : XK)
    (hr : Room k (A.deeper (PyProof.Rows.envOfC "_law_sorted_right" (defScope s_law_sorted_right) st.heap.objs.size f cdv))) (hgd : (A.deeper (PyProof.Rows.envOfC "_law_sorted_right" (defScope s_law_sorted_right) st.heap.objs.size f cdv)).guards = some []) :
    DSs (cxOf CX0 P w K mg base N_law_sorted_right "_law_sorted_right" (defScope s_law_sorted_right) f cdv A out st H E).nox (defBody s_law_sorted_right) (r_law_sorted_right sp_sorted_signs sp_is_ahead) := by
  have SC := sc_law_sorted_right
  have hu := hu_of hr
  have hu64 := hr.units
  have hu70 := hu70_of hr
  exact (ds_cons (ds_set (i := 1) SC.nd rfl (by first | exact Or.inl rfl | exact Or.inr rfl) (dc C_sorted_signs hr hgd rfl (da_cons (dv 0) da_nil)))
  (ds_cons (ds_if (dt_w (dw_or (dt_cmp (o_ne hu64) (de_frz (de_lc (own := [("_law_item", 2)]) (ct := (.one 2)) rfl SC.nd (di_seq (dv 0)) (blkOk_by (by show blkC N_law_sorted_right (defScope s_law_sorted_right) _ _ = true; decide +kernel)) (by decide) (fun _ _ _ _ _ => pg_name (i := 2) SC.nd rfl (Or.inl rfl)) (fun _ _ _ _ _ => (dts_one (dt_cmp (o_notinT hu70) (dv 2) (dv 1) rfl))) (fun _ _ _ _ _ => (dv 2)))) (de_frz (de_lst da_nil)) (nomark _)) (dw_or1 (dt_cmp (o_ne hu64) (de_frz (de_lc (own := [("_law_item", 2)]) (ct := (.one 2)) rfl SC.nd (di_seq (dv 1)) (blkOk_by (by show blkC N_law_sorted_right (defScope s_law_sorted_right) _ _ = true; decide +kernel)) (by decide) (fun _ _ _ _ _ => pg_name (i := 2) SC.nd rfl (Or.inl rfl)) (fun _ _ _ _ _ => (dts_one (dt_cmp (o_notinT hu70) (dv 2) (dv 0) rfl))) (fun _ _ _ _ _ => (dv 2)))) (de_frz (de_lst da_nil)) (nomark _)))))
  (ds_one (ds_ret de_bl))
  ds_nil)
  (ds_cons (ds_if (dt_cmp (o_ne hu64) (de_frz (de_lc (own := [("_law_k", 3)]) (ct := (.one 3)) rfl SC.nd (di_range2 rfl T.m_range (da_cons de_int (da_cons (de_callB c_len rfl T.m_len PySem.boot_len (da_cons (dv 1) da_nil)) da_nil))) (blkOk_by (by show blkC N_law_sorted_right (defScope s_law_sorted_right) _ _ = true; decide +kernel)) (by decide) (fun _ _ _ _ _ => pg_name (i := 3) SC.nd rfl (Or.inl rfl)) (fun _ _ _ _ _ => (dts_one (dt_not (dt_tru (dc C_is_ahead hr hgd rfl (da_cons (de_slice (dv 1) (do_some (de_op o_sub (dv 3) de_int)) (do_some (dv 3))) (da_cons (de_slice (dv 1) (do_some (dv 3)) (do_some (de_op o_add (dv 3) de_int))) da_nil))))))) (fun _ _ _ _ _ => (dv 3)))) (de_frz (de_lst da_nil)) (nomark _))
  (ds_one (ds_ret de_bl))
  ds_nil)
  (ds_cons (ds_if (dt_w (dw_or (dt_cmp (o_ne hu64) (dc C_sorted_signs hr hgd rfl (da_cons (dv 1) da_nil)) (dv 1) (nomark _)) (dw_or (dt_cmp (o_ne hu64) (dc C_sorted_signs hr hgd rfl (da_cons (de_rev (dv 0)) da_nil)) (dv 1) (nomark _)) (dw_or1 (dt_cmp (o_ne hu64) (dc C_sorted_signs hr hgd rfl (da_cons (de_op o_mul (dv 0) de_int) da_nil)) (dv 1) (nomark _))))))
  (ds_one (ds_ret de_bl))
  ds_nil)
  (ds_cons (ds_set (i := 4) SC.nd rfl (by first | exact Or.inl rfl | exact Or.inr rfl) (dc C_sorted_signs hr hgd rfl (da_cons (de_op o_add (dv 0) (de_tup (da_cons de_str (da_cons (de_tup (da_cons de_str (da_cons de_str da_nil))) da_nil)))) da_nil)))
  (ds_one (ds_ret (de_and (de_cmp (o_eq hu64) (de_frz (de_lc (own := [("_law_item", 2)]) (ct := (.one 2)) rfl SC.nd (di_seq (dv 1)) (blkOk_by (by show blkC N_law_sorted_right (defScope s_law_sorted_right) _ _ = true; decide +kernel)) (by decide) (fun _ _ _ _ _ => pg_name (i := 2) SC.nd rfl (Or.inl rfl)) (fun _ _ _ _ _ => (dts_one (dt_cmp (o_notinT hu70) (dv 2) (dv 4) rfl))) (fun _ _ _ _ _ => (dv 2)))) (de_frz (de_lst da_nil)) (nomark _)) (de_one (de_cmp o_le (de_callB c_len rfl T.m_len PySem.boot_len (da_cons (dv 4) da_nil)) (de_op o_add (de_callB c_len rfl T.m_len PySem.boot_len (da_cons (dv 1) da_nil)) de_int) (nomark _)))))))))))

theorem d_law_sorted_right {P : Program} {w : World} {K : PySem.W.Frag} {mg : Str → Option Value} {base : Heap} {k : Nat} {f : Addr} {fd : FuncData} {sp : DSp} (T : Tx P w K mg) {sp_sorted_signs : DSp} {sp_is_ahead : DSp} (C_sorted_signs : Callee P w K mg base k "sorted_signs" P_sorted_signs sp_sorted_signs) (C_is_ahead : Callee P w K mg base k "is_ahead" P_is_ahead sp_is_ahead) 
    (F : FunD K "_law_sorted_right" "_law_sorted_right" (defArgs s_law_sorted_right) (defBody s_law_sorted_right) (defScope s_law_sorted_right) [] [] f fd) (len : ∀ ds G Q E, sp ds G Q E → ds.length = 1)
    (ok : ∀ ds G Q E, sp ds G Q E → (r_law_sorted_right sp_sorted_signs sp_is_ahead) { nx := fun _ G' => Q .non G', rt := Q } (startD 5 ds) G) : DFn P w K mg base (k + 1) f fd P_law_sorted_right sp :=
  dfn_of F sc_law_sorted_right len (b_law_sorted_right T C_sorted_signs C_is_ahead) ok

theorem k_law_sorted_right {P : Program} {w : World} {K : PySem.W.Frag} {mg : Str → Option Value} {base : Heap} {k : Nat} {f : Addr} {fd : FuncData} {sp : DSp} (T : Tx P w K mg) {sp_sorted_signs : DSp} {sp_is_ahead : DSp} (C_sorted_signs : Callee P w K mg base k "sorted_signs" P_sorted_signs sp_sorted_signs) (C_is_ahead : Callee P w K mg base k "is_ahead" P_is_ahead sp_is_ahead) 
    (F : FunD K "_law_sorted_right" "_law_sorted_right" (defArgs s_law_sorted_right) (defBody s_law_sorted_right) (defScope s_law_sorted_right) [] [] f fd) (hm : mg "_law_sorted_right" = some (.ref f)) (len : ∀ ds G Q E, sp ds G Q E → ds.length = 1)
    (ok : ∀ ds G Q E, sp ds G Q E → (r_law_sorted_right sp_sorted_signs sp_is_ahead) { nx := fun _ G' => Q .non G', rt := Q } (startD 5 ds) G) : Callee P w K mg base (k + 1) "_law_sorted_right" P_law_sorted_right sp :=
  callee_of F hm (d_law_sorted_right T C_sorted_signs C_is_ahead F len ok) (fun _ _ _ _ _ _ us hl => match us, hl with | [_], _ => rfl) (fun _ _ _ _ _ _ us hl => match us, hl with | [_], _ => rfl)

abbrev N_law_bytes_right : List Str := ["_law_row_in", "_law_second", "_law_data_in", "_law_late", "_law_item", "_law_told", "_law_most_in"]
abbrev P_law_bytes_right : List Str := ["_law_row_in", "_law_second"]

theorem sc_law_bytes_right : FnScope N_law_bytes_right P_law_bytes_right (defScope s_law_bytes_right) := ⟨rfl, rfl, rfl, by decide +kernel, rfl, by decide +kernel, by decide +kernel⟩

theorem b_law_bytes_right {P : Program} {w : World} {K : PySem.W.Frag} {mg : Str → Option Value} {base : Heap} {k : Nat} {f c Tb : Addr} (T : Tx P w K mg) (TB : TabB base mg c Tb) {sp_packed : DSp} {sp_is_signs : DSp} {sp_unpacked : DSp} {sx_unpacked : DSp} (C_packed : Callee P w K mg base (k + 2) "packed" P_packed sp_packed) (C_is_signs : Callee P w K mg base (k + 2) "is_signs" P_is_signs sp_is_signs) (C_unpacked : Callee P w K mg base (k + 2) "unpacked" P_unpacked sp_unpacked)  (X_unpacked : XCallee P w K mg base k "unpacked" P_unpacked sx_unpacked)   (H_law_heard : Hearer P w K mg base k "_law_heard" r_law_heard 4) (A : Around) (out : List Env) (st : Shared) (H : Hp) (E : XK)
    (hr : Room (k + 2) (A.deeper (PyProof.Rows.envOfC "_law_bytes_right" (defScope s_law_bytes_right) st.heap.objs.size f (.ref c)))) (hgd : (A.deeper (PyProof.Rows.envOfC "_law_bytes_right" (defScope s_law_bytes_right) st.heap.objs.size f (.ref c))).guards = some []) :
    DSs (cxOf CX0 P w K mg base N_law_bytes_right "_law_bytes_right" (defScope s_law_bytes_right) f (.ref c) A out st H E).nox (defBody s_law_bytes_right) (r_law_bytes_right Tb sp_packed sp_is_signs sp_unpacked sx_unpacked) := by
  have hr2 := hr
  have SC := sc_law_bytes_right
  have hu := hu_of hr
  have hu64 := hr.units
  have hu70 := hu70_of hr
  exact (ds_cons (ds_asg (de_tup (da_cons (dc C_packed hr hgd rfl (da_cons (dv 0) da_nil)) (da_cons (dc C_packed hr hgd rfl (da_cons (dv 1) da_nil)) da_nil))) (dg_tup rfl (dgs_cons (dg_name (i := 2) SC.nd rfl (by first | exact Or.inl rfl | exact Or.inr rfl)) (dgs_cons (dg_name (i := 3) SC.nd rfl (by first | exact Or.inl rfl | exact Or.inr rfl)) dgs_nil))))
  (ds_cons (ds_if (dt_w (dw_or (dt_cmp (o_ne hu64) (dc C_unpacked hr hgd rfl (da_cons (dv 2) da_nil)) (dv 0) (nomark _)) (dw_or (dt_cmp o_neB (dc C_packed hr hgd rfl (da_cons (dc C_unpacked hr hgd rfl (da_cons (dv 3) da_nil)) da_nil)) (dv 3) (nomark _)) (dw_or1 (dt_cmp (o_ne hu64) (dc C_unpacked hr hgd rfl (da_cons (de_op o_addB (dv 2) (dv 3)) da_nil)) (de_op o_add (dv 0) (dv 1)) (nomark _))))))
  (ds_one (ds_ret de_bl))
  ds_nil)
  (ds_cons (ds_if (dt_w (dw_or (dt_cmp o_neB (dc C_packed hr hgd rfl (da_cons (de_op o_add (dv 0) (dv 1)) da_nil)) (de_op o_addB (dv 2) (dv 3)) (nomark _)) (dw_or1 (dt_cmp (o_ne hu64) (de_cmp o_eqB (dv 2) (dv 3) (nomark _)) (de_cmp (o_eq hu64) (dv 0) (dv 1) (nomark _)) (nomark _)))))
  (ds_one (ds_ret de_bl))
  ds_nil)
  (ds_cons (ds_if (dt_w (dw_or (dt_cmp (o_ne hu64) (de_callB c_lenB rfl T.m_len PySem.boot_len (da_cons (dv 2) da_nil)) (de_callB (c_sum rfl) rfl T.m_sum (by decide +kernel) (da_cons (de_frz (de_lc (own := [("_law_item", 4)]) (ct := (.one 4)) rfl SC.nd (di_seq (dv 0)) (blkOk_by (by show blkC N_law_bytes_right (defScope s_law_bytes_right) _ _ = true; decide +kernel)) (by decide) (fun _ _ _ _ _ => pg_name (i := 4) SC.nd rfl (Or.inl rfl)) (fun _ _ _ _ _ => dts_nil) (fun _ _ _ _ _ => (de_callB c_lenB rfl T.m_len PySem.boot_len (da_cons (dc C_packed hr hgd rfl (da_cons (de_tup (da_cons (dv 4) da_nil)) da_nil)) da_nil))))) da_nil)) (nomark _)) (dw_or1 (dt_not (dt_tru (dc C_is_signs hr hgd rfl (da_cons (dc C_unpacked hr hgd rfl (da_cons (dv 2) da_nil)) da_nil)))))))
  (ds_one (ds_ret de_bl))
  ds_nil)
  (ds_cons (ds_if (dt_cmp (o_ne hu64) (de_callB c_lenB rfl T.m_len PySem.boot_len (da_cons (dc C_packed hr hgd rfl (da_cons (de_op o_add (de_tup (da_cons (de_tup (da_cons de_str (da_cons (de_tup (da_cons de_str (da_cons de_str da_nil))) da_nil))) da_nil)) (dv 0)) da_nil)) da_nil)) (de_op o_add (de_callB c_lenB rfl T.m_len PySem.boot_len (da_cons (dv 2) da_nil)) de_int) (nomark _))
  (ds_one (ds_ret de_bl))
  ds_nil)
  (ds_cons (ds_if (dt_cmp (o_eq hu64) (dv 0) (de_tup da_nil) (nomark _))
  (ds_one (ds_ret de_bl))
  ds_nil)
  (ds_cons (ds_par (i := 5) (j := 6) rfl SC.nd rfl rfl (by decide) rfl rfl (da_cons (de_hearL H_law_heard TB rfl (by first | rfl | kernel_rfl) hr2 hgd rfl rfl (lamS_by (by show lamSB (defScope s_law_bytes_right) _ = true; decide +kernel)) (fun _ _ _ _ => rfl) (fun A outer s H E f c' hr hgd tk => have hu := hu_of hr; have hu64 := hr.units; have hu70 := hu70_of hr; (xc X_unpacked tk hr hgd rfl (xa_p (da_cons (de_sliceB (dv 2) do_none (do_some (de_neg de_int))) da_nil))))) (da_cons (de_op o_sub (de_callB c_lenB rfl T.m_len PySem.boot_len (da_cons (dv 2) da_nil)) de_int) da_nil)) rfl)
  (ds_cons (ds_if (dt_cmp (o_eq hu64) (de_ix (dv 5) de_int) de_str (nomark _))
  (ds_one (ds_ret (de_and (de_cmp (o_eq hu64) (de_ix (dv 5) de_int) (de_slice (dv 0) do_none (do_some (de_neg de_int))) (nomark _)) (de_one (de_cmp (o_inT hu70) (de_ix (dv 0) (de_neg de_int)) (de_tup (da_cons de_str (da_cons de_str (da_cons de_str da_nil)))) rfl)))))
  ds_nil)
  (ds_one (ds_ret (de_cmp (o_eq hu64) (dv 5) (de_tup (da_cons de_str (da_cons de_str (da_cons (dv 6) da_nil)))) (nomark _))))))))))))

theorem d_law_bytes_right {P : Program} {w : World} {K : PySem.W.Frag} {mg : Str → Option Value} {base : Heap} {k : Nat} {f c Tb : Addr} {fd : FuncData} {sp : DSp} (T : Tx P w K mg) (TB : TabB base mg c Tb) (hc : fd.code = .ref c) {sp_packed : DSp} {sp_is_signs : DSp} {sp_unpacked : DSp} {sx_unpacked : DSp} (C_packed : Callee P w K mg base (k + 2) "packed" P_packed sp_packed) (C_is_signs : Callee P w K mg base (k + 2) "is_signs" P_is_signs sp_is_signs) (C_unpacked : Callee P w K mg base (k + 2) "unpacked" P_unpacked sp_unpacked)  (X_unpacked : XCallee P w K mg base k "unpacked" P_unpacked sx_unpacked)   (H_law_heard : Hearer P w K mg base k "_law_heard" r_law_heard 4)
    (F : FunD K "_law_bytes_right" "_law_bytes_right" (defArgs s_law_bytes_right) (defBody s_law_bytes_right) (defScope s_law_bytes_right) [] [] f fd) (len : ∀ ds G Q E, sp ds G Q E → ds.length = 2)
    (ok : ∀ ds G Q E, sp ds G Q E → (r_law_bytes_right Tb sp_packed sp_is_signs sp_unpacked sx_unpacked) { nx := fun _ G' => Q .non G', rt := Q } (startD 7 ds) G) : DFn P w K mg base (k + 3) f fd P_law_bytes_right sp :=
  dfn_ofL (β := Unit) (t := fun _ => r_law_bytes_right Tb sp_packed sp_is_signs sp_unpacked sx_unpacked) F hc sc_law_bytes_right len (fun A out st H E hr hgd => ⟨(), b_law_bytes_right T TB C_packed C_is_signs C_unpacked X_unpacked H_law_heard A out st H E hr hgd⟩) (fun _ => ok)

theorem k_law_bytes_right {P : Program} {w : World} {K : PySem.W.Frag} {mg : Str → Option Value} {base : Heap} {k : Nat} {f c Tb : Addr} {fd : FuncData} {sp : DSp} (T : Tx P w K mg) (TB : TabB base mg c Tb) (hc : fd.code = .ref c) {sp_packed : DSp} {sp_is_signs : DSp} {sp_unpacked : DSp} {sx_unpacked : DSp} (C_packed : Callee P w K mg base (k + 2) "packed" P_packed sp_packed) (C_is_signs : Callee P w K mg base (k + 2) "is_signs" P_is_signs sp_is_signs) (C_unpacked : Callee P w K mg base (k + 2) "unpacked" P_unpacked sp_unpacked)  (X_unpacked : XCallee P w K mg base k "unpacked" P_unpacked sx_unpacked)   (H_law_heard : Hearer P w K mg base k "_law_heard" r_law_heard 4)
    (F : FunD K "_law_bytes_right" "_law_bytes_right" (defArgs s_law_bytes_right) (defBody s_law_bytes_right) (defScope s_law_bytes_right) [] [] f fd) (hm : mg "_law_bytes_right" = some (.ref f)) (len : ∀ ds G Q E, sp ds G Q E → ds.length = 2)
    (ok : ∀ ds G Q E, sp ds G Q E → (r_law_bytes_right Tb sp_packed sp_is_signs sp_unpacked sx_unpacked) { nx := fun _ G' => Q .non G', rt := Q } (startD 7 ds) G) : Callee P w K mg base (k + 3) "_law_bytes_right" P_law_bytes_right sp :=
  callee_of F hm (d_law_bytes_right T TB hc C_packed C_is_signs C_unpacked X_unpacked H_law_heard F len ok) (fun _ _ _ _ _ _ us hl => match us, hl with | [_, _], _ => rfl) (fun _ _ _ _ _ _ us hl => match us, hl with | [_, _], _ => rfl)

abbrev N_law : List Str := ["_law_script", "_law_feed_here", "_law_rows", "_law_turn", "_law_row_in", "_law_kept", "_law_item"]
abbrev P_law : List Str := ["_law_script"]

theorem sc_law : FnScope N_law P_law (defScope s_law) := ⟨rfl, rfl, rfl, by decide +kernel, rfl, by decide +kernel, by decide +kernel⟩

theorem b_law {P : Program} {w : World} {K : PySem.W.Frag} {mg : Str → Option Value} {base : Heap} {k : Nat} {f : Addr} (T : Tx P w K mg) {sp_law_order_right : DSp} {sp_law_bytes_right : DSp} {sp_law_draw : DSp} {sp_law_sorted_right : DSp} {sp_is_sign : DSp} {sp_lets_signs : DSp} {sp_law_signs : DSp} {sp_law_feed : DSp} (C_law_order_right : Callee P w K mg base k "_law_order_right" P_law_order_right sp_law_order_right) (C_law_bytes_right : Callee P w K mg base k "_law_bytes_right" P_law_bytes_right sp_law_bytes_right) (C_law_draw : Callee P w K mg base k "_law_draw" P_law_draw sp_law_draw) (C_law_sorted_right : Callee P w K mg base k "_law_sorted_right" P_law_sorted_right sp_law_sorted_right) (C_is_sign : Callee P w K mg base k "is_sign" P_is_sign sp_is_sign) (C_lets_signs : Callee P w K mg base k "lets_signs" P_lets_signs sp_lets_signs) (C_law_signs : Callee P w K mg base k "_law_signs" P_law_signs sp_law_signs) (C_law_feed : Callee P w K mg base k "_law_feed" P_law_feed sp_law_feed)  (cdv : Value) (A : Around) (out : List Env) (st : Shared) (H : Hp) (E : XK)
    (hr : Room k (A.deeper (PyProof.Rows.envOfC "law" (defScope s_law) st.heap.objs.size f cdv))) (hgd : (A.deeper (PyProof.Rows.envOfC "law" (defScope s_law) st.heap.objs.size f cdv)).guards = some []) :
    DSs (cxOf CX0 P w K mg base N_law "law" (defScope s_law) f cdv A out st H E).nox (defBody s_law) (r_law sp_law_order_right sp_law_bytes_right sp_law_draw sp_law_sorted_right sp_is_sign sp_lets_signs sp_law_signs sp_law_feed) := by
  have SC := sc_law
  have hu := hu_of hr
  have hu64 := hr.units
  have hu70 := hu70_of hr
  exact (ds_cons (ds_set (i := 1) SC.nd rfl (by first | exact Or.inl rfl | exact Or.inr rfl) (dc C_law_feed hr hgd rfl (da_cons (dv 0) da_nil)))
  (ds_cons (ds_set (i := 2) SC.nd rfl (by first | exact Or.inl rfl | exact Or.inr rfl) (de_lst (da_cons (de_tup da_nil) (da_cons (de_tup (da_cons de_str da_nil)) da_nil))))
  (ds_cons (ds_for PassesOwn.never rfl (di_range1 rfl T.m_range (da_cons de_int da_nil)) (dg_name (i := 3) SC.nd rfl (by first | exact Or.inl rfl | exact Or.inr rfl))
  (ds_cons (ds_set (i := 4) SC.nd rfl (by first | exact Or.inl rfl | exact Or.inr rfl) (dc C_law_signs hr hgd rfl (da_cons (dv 1) (da_cons de_int da_nil))))
  (ds_one (ds_expr (de_extend (dv 2) (de_frz (de_lst (da_cons (dv 4) (da_cons (de_slice (dv 4) do_none (do_some de_int)) (da_cons (de_op o_add (dv 4) (de_tup (da_cons de_str da_nil))) da_nil))))))))))
  (ds_cons (ds_set (i := 2) SC.nd rfl (by first | exact Or.inl rfl | exact Or.inr rfl) (de_slice (dv 2) do_none (do_some de_int)))
  (ds_cons (ds_set (i := 5) SC.nd rfl (by first | exact Or.inl rfl | exact Or.inr rfl) (de_callB (c_repr hgd hu70) rfl T.m_repr (by decide +kernel) (da_cons (dv 2) da_nil)))
  (ds_cons (ds_for PassesOwn.never rfl (di_seq (dv 2)) (dg_name (i := 4) SC.nd rfl (by first | exact Or.inl rfl | exact Or.inr rfl))
  (ds_cons (ds_if (dt_w (dw_or (dt_cmp (o_ne hu64) (dc C_lets_signs hr hgd rfl (da_cons (dv 4) da_nil)) (de_callB c_len rfl T.m_len PySem.boot_len (da_cons (dv 4) da_nil)) (nomark _)) (dw_or1 (dt_cmp (o_ne hu64) (de_frz (de_lc (own := [("_law_item", 6)]) (ct := (.one 6)) rfl SC.nd (di_seq (dv 4)) (blkOk_by (by show blkC N_law (defScope s_law) _ _ = true; decide +kernel)) (by decide) (fun _ _ _ _ _ => pg_name (i := 6) SC.nd rfl (Or.inl rfl)) (fun _ _ _ _ _ => (dts_one (dt_not (dt_tru (dc C_is_sign hr hgd rfl (da_cons (dv 6) da_nil)))))) (fun _ _ _ _ _ => (dv 6)))) (de_frz (de_lst da_nil)) (nomark _)))))
  (ds_one (ds_ret de_bl))
  ds_nil)
  (ds_one (ds_if (dt_w (dw_or (dt_not (dt_tru (dc C_law_sorted_right hr hgd rfl (da_cons (dv 4) da_nil)))) (dw_or1 (dt_not (dt_tru (dc C_law_bytes_right hr hgd rfl (da_cons (dv 4) (da_cons (de_ix (dv 2) (dc C_law_draw hr hgd rfl (da_cons (dv 1) (da_cons (de_callB c_len rfl T.m_len PySem.boot_len (da_cons (dv 2) da_nil)) da_nil)))) da_nil))))))))
  (ds_one (ds_ret de_bl))
  ds_nil))))
  (ds_one (ds_ret (de_and (dc C_law_order_right hr hgd rfl (da_cons (dv 2) da_nil)) (de_one (de_cmp (o_eq hu64) (de_callB (c_repr hgd hu70) rfl T.m_repr (by decide +kernel) (da_cons (dv 2) da_nil)) (dv 5) (nomark _))))))))))))

end K13

namespace K13
open PySem L2 Dl K06 K05
open PyProof.Rows LamX NdefX
section
variable {w : World} {K : PySem.W.Frag} {h : Heap} {mg : Str → Option Value}
theorem tx_of (X : K.In h) (G : h.Ns mainGlobals mg) (c : SaysE fx fn (tq.map (·.1)) ex xs pd h K) : Tx (PySem.Challenge.rw_honestbars_k13_whole_orders_and_bytes).prog w K mg := by
  have X1 : exTB K CT = true := (Bool.and_eq_true_iff.mp c.more).1
  have X2 := (Bool.and_eq_true_iff.mp c.more).2
  simp only [Bool.and_eq_true] at X2
  obtain ⟨Y_InvalidPaper, Y_NotUsable⟩ := X2
  have x_InvalidPaper : XClass (PySem.Challenge.rw_honestbars_k13_whole_orders_and_bytes).prog w K mg "InvalidPaper" ["word", "at"] := xclass2 (d := xd_InvalidPaper) Y_InvalidPaper (c.ini xd_InvalidPaper (by unfold xs; simp)) (He.glo_ok X G (c.x.fact 51 (f := .glo "InvalidPaper") rfl)) rfl rfl (nscope_by (by decide +kernel)) rfl rfl rfl (by decide +kernel) (by decide) (by decide) (by decide) (by decide)
    (fun _ _ _ _ _ _ us hl => match us, hl with | [_, _, _], _ => rfl) (fun _ => rfl) (fun _ => rfl)
  have x_NotUsable : XClass (PySem.Challenge.rw_honestbars_k13_whole_orders_and_bytes).prog w K mg "NotUsable" ["word", "at"] := xclass2 (d := xd_NotUsable) Y_NotUsable (c.ini xd_NotUsable (by unfold xs; simp)) (He.glo_ok X G (c.x.fact 56 (f := .glo "NotUsable") rfl)) rfl rfl (nscope_by (by decide +kernel)) rfl rfl rfl (by decide +kernel) (by decide) (by decide) (by decide) (by decide)
    (fun _ _ _ _ _ _ us hl => match us, hl with | [_, _, _], _ => rfl) (fun _ => rfl) (fun _ => rfl)
  exact ⟨He.free_ok X G (c.x.fact 26 (f := .free "all") rfl), He.free_ok X G (c.x.fact 27 (f := .free "bool") rfl), He.free_ok X G (c.x.fact 28 (f := .free "bytes") rfl), He.free_ok X G (c.x.fact 29 (f := .free "enumerate") rfl), He.free_ok X G (c.x.fact 30 (f := .free "int") rfl), He.free_ok X G (c.x.fact 31 (f := .free "isinstance") rfl), He.free_ok X G (c.x.fact 32 (f := .free "len") rfl), He.free_ok X G (c.x.fact 33 (f := .free "list") rfl), He.free_ok X G (c.x.fact 34 (f := .free "range") rfl), He.free_ok X G (c.x.fact 35 (f := .free "repr") rfl), He.free_ok X G (c.x.fact 36 (f := .free "sorted") rfl), He.free_ok X G (c.x.fact 37 (f := .free "str") rfl), He.free_ok X G (c.x.fact 38 (f := .free "sum") rfl), He.free_ok X G (c.x.fact 39 (f := .free "tuple") rfl), dat_ok X G (c.x.fact 40 (f := .dat "PLAIN_SIGNS" (.tup [(.str "tick"), (.str "more"), (.str "end")])) rfl), dat_ok X G (c.x.fact 41 (f := .dat "NUMBER_SIGNS" (.tup [(.str "many"), (.str "way")])) rfl), dat_ok X G (c.x.fact 42 (f := .dat "SIDES" (.tup [(.str "left"), (.str "right")])) rfl), dat_ok X G (c.x.fact 43 (f := .dat "BASE" (.int 256)) rfl), dat_ok X G (c.x.fact 44 (f := .dat "FIRST_NUMBER" (.int 3)) rfl), dat_ok X G (c.x.fact 45 (f := .dat "FIRST_SIDE" (.int 5)) rfl), dat_ok X G (c.x.fact 46 (f := .dat "BEHIND_SIDES" (.int 7)) rfl), dat_ok X G (c.x.fact 47 (f := .dat "MOST_SIDES" (.int 29)) rfl), c.x.fact 48 (f := .kb tdB) rfl, He.cls_ok (x := "ByteReader") (c.x.fact 60 (f := .fa (.cls "ByteReader")) rfl), He.noat_ok (x := "ByteReader") (f := "own_data") (c.x.fact 62 (f := .fa (.noat "ByteReader" "own_data")) rfl), He.noat_ok (x := "ByteReader") (f := "spot") (c.x.fact 63 (f := .fa (.noat "ByteReader" "spot")) rfl), x_InvalidPaper, x_NotUsable, He.glo_ok X G (c.x.fact 49 (f := .glo "BarError") rfl), He.glo_ok X G (c.x.fact 51 (f := .glo "InvalidPaper") rfl), He.glo_ok X G (c.x.fact 52 (f := .glo "InvalidRow") rfl), He.glo_ok X G (c.x.fact 53 (f := .glo "InvalidText") rfl), He.glo_ok X G (c.x.fact 54 (f := .glo "LiveError") rfl), He.glo_ok X G (c.x.fact 55 (f := .glo "NotNext") rfl), He.glo_ok X G (c.x.fact 56 (f := .glo "NotUsable") rfl), He.glo_ok X G (c.x.fact 57 (f := .glo "PaperError") rfl), He.glo_ok X G (c.x.fact 58 (f := .glo "TextError") rfl), He.glo_ok X G (c.x.fact 59 (f := .glo "WorkError") rfl), exTB_ok X1⟩
end
theorem noSg0 (ds : List D) (G : GH) (Q : DK) (E : DXK) : ¬ K06.spSg 0 ds G Q E := fun ⟨_, _, _, h, _⟩ => by omega

theorem facts {w : World} {K : PySem.W.Frag} {h : Heap} {mg : Str → Option Value} {f : Addr} (X : K.In h) (G : h.Ns mainGlobals mg) (hfa : mg ("law" : Str) = some (.ref f)) (c : SaysE fx fn (tq.map (·.1)) ex xs pd h K) :
    ∃ fd : FuncData, (∀ (s : Shared) (v : Value), BindsTo s fd ⟨[v], []⟩ [("_law_script", v)]) ∧ ∀ base : Heap, K.In base → base.Ns mainGlobals mg → (∀ p ∈ csT K tq, TabB base mg p.1 p.2) → DFn (PySem.Challenge.rw_honestbars_k13_whole_orders_and_bytes).prog w K mg base 11 f fd ["_law_script"] (spLaw13 (He.cT K ("_law_bytes_right", none)).2) := by
  have T : Tx (PySem.Challenge.rw_honestbars_k13_whole_orders_and_bytes).prog w K mg := tx_of X G c
  have g_ByteReader := He.glo_ok X G (c.x.fact 50 (f := .glo "ByteReader") rfl)
  have K_ByteReader := He.mkr_ok (K := K) (x := "ByteReader") (c.x.fact 61 (f := .fa (.mkr "ByteReader")) rfl)
  have M_ByteReader_has_more := He.meth_ok (K := K) (x := "ByteReader") (m := "has_more") (c.x.fact 64 (f := .fa (.meth "ByteReader" "has_more")) rfl)
  have M_ByteReader_take_byte := He.meth_ok (K := K) (x := "ByteReader") (m := "take_byte") (c.x.fact 65 (f := .fa (.meth "ByteReader" "take_byte")) rfl)
  have M_ByteReader_take_digits := He.meth_ok (K := K) (x := "ByteReader") (m := "take_digits") (c.x.fact 66 (f := .fa (.meth "ByteReader" "take_digits")) rfl)
  have M_ByteReader_take_sign := He.meth_ok (K := K) (x := "ByteReader") (m := "take_sign") (c.x.fact 67 (f := .fa (.meth "ByteReader" "take_sign")) rfl)
  obtain ⟨fd_is_integer, F_is_integer⟩ := c.x.def_ 0 (d := d_is_integer_) rfl
  have m_is_integer := He.glo_ok X G (c.x.fact 0 (f := .glo "is_integer") rfl)
  obtain ⟨fd_is_number, F_is_number⟩ := c.x.def_ 1 (d := d_is_number_) rfl
  have m_is_number := He.glo_ok X G (c.x.fact 1 (f := .glo "is_number") rfl)
  obtain ⟨fd_is_sided, F_is_sided⟩ := c.x.def_ 2 (d := d_is_sided_) rfl
  have m_is_sided := He.glo_ok X G (c.x.fact 2 (f := .glo "is_sided") rfl)
  obtain ⟨fd_is_sign, F_is_sign⟩ := c.x.def_ 3 (d := d_is_sign_) rfl
  have m_is_sign := He.glo_ok X G (c.x.fact 3 (f := .glo "is_sign") rfl)
  obtain ⟨fd_is_signs, F_is_signs⟩ := c.x.def_ 4 (d := d_is_signs_) rfl
  have m_is_signs := He.glo_ok X G (c.x.fact 4 (f := .glo "is_signs") rfl)
  obtain ⟨fd_require_usable, F_require_usable⟩ := c.x.def_ 5 (d := d_require_usable_) rfl
  have m_require_usable := He.glo_ok X G (c.x.fact 5 (f := .glo "require_usable") rfl)
  obtain ⟨fd_sign_rank, F_sign_rank⟩ := c.x.def_ 6 (d := d_sign_rank_) rfl
  have m_sign_rank := He.glo_ok X G (c.x.fact 6 (f := .glo "sign_rank") rfl)
  obtain ⟨fd_signs_rank, F_signs_rank⟩ := c.x.def_ 7 (d := d_signs_rank_) rfl
  have m_signs_rank := He.glo_ok X G (c.x.fact 7 (f := .glo "signs_rank") rfl)
  obtain ⟨fd_in_sign_order, F_in_sign_order⟩ := c.x.def_ 8 (d := d_in_sign_order_) rfl
  have m_in_sign_order := He.glo_ok X G (c.x.fact 8 (f := .glo "in_sign_order") rfl)
  obtain ⟨fd_sorted_signs, F_sorted_signs⟩ := c.x.def_ 9 (d := d_sorted_signs_) rfl
  have m_sorted_signs := He.glo_ok X G (c.x.fact 9 (f := .glo "sorted_signs") rfl)
  obtain ⟨fd_is_ahead, F_is_ahead⟩ := c.x.def_ 10 (d := d_is_ahead_) rfl
  have m_is_ahead := He.glo_ok X G (c.x.fact 10 (f := .glo "is_ahead") rfl)
  obtain ⟨fd_number_codes, F_number_codes⟩ := c.x.def_ 11 (d := d_number_codes_) rfl
  have m_number_codes := He.glo_ok X G (c.x.fact 11 (f := .glo "number_codes") rfl)
  obtain ⟨fd_sign_codes, F_sign_codes⟩ := c.x.def_ 12 (d := d_sign_codes_) rfl
  have m_sign_codes := He.glo_ok X G (c.x.fact 12 (f := .glo "sign_codes") rfl)
  obtain ⟨fd_packed, F_packed⟩ := c.x.def_ 13 (d := d_packed_) rfl
  have m_packed := He.glo_ok X G (c.x.fact 13 (f := .glo "packed") rfl)
  obtain ⟨fd_ByteReader___init__, F_ByteReader___init__⟩ := c.x.def_ 14 (d := d_ByteReader___init___) rfl
  obtain ⟨fd_ByteReader_has_more, F_ByteReader_has_more⟩ := c.x.def_ 15 (d := d_ByteReader_has_more_) rfl
  obtain ⟨fd_ByteReader_take_byte, F_ByteReader_take_byte⟩ := c.x.def_ 16 (d := d_ByteReader_take_byte_) rfl
  obtain ⟨fd_ByteReader_take_digits, F_ByteReader_take_digits⟩ := c.x.def_ 17 (d := d_ByteReader_take_digits_) rfl
  obtain ⟨fd_ByteReader_take_sign, F_ByteReader_take_sign⟩ := c.x.def_ 18 (d := d_ByteReader_take_sign_) rfl
  obtain ⟨fd_unpacked, F_unpacked⟩ := c.x.def_ 19 (d := d_unpacked_) rfl
  have m_unpacked := He.glo_ok X G (c.x.fact 14 (f := .glo "unpacked") rfl)
  obtain ⟨fd_require_paper, F_require_paper⟩ := c.x.def_ 20 (d := d_require_paper_) rfl
  have m_require_paper := He.glo_ok X G (c.x.fact 15 (f := .glo "require_paper") rfl)
  obtain ⟨fd_lets_signs, F_lets_signs⟩ := c.x.def_ 21 (d := d_lets_signs_) rfl
  have m_lets_signs := He.glo_ok X G (c.x.fact 16 (f := .glo "lets_signs") rfl)
  obtain ⟨fd_law_feed, F_law_feed⟩ := c.x.def_ 22 (d := d_law_feed_) rfl
  have m_law_feed := He.glo_ok X G (c.x.fact 17 (f := .glo "_law_feed") rfl)
  obtain ⟨fd_law_draw, F_law_draw⟩ := c.x.def_ 23 (d := d_law_draw_) rfl
  have m_law_draw := He.glo_ok X G (c.x.fact 18 (f := .glo "_law_draw") rfl)
  obtain ⟨fd_law_sign, F_law_sign⟩ := c.x.def_ 24 (d := d_law_sign_) rfl
  have m_law_sign := He.glo_ok X G (c.x.fact 19 (f := .glo "_law_sign") rfl)
  obtain ⟨fd_law_signs, F_law_signs⟩ := c.x.def_ 25 (d := d_law_signs_) rfl
  have m_law_signs := He.glo_ok X G (c.x.fact 20 (f := .glo "_law_signs") rfl)
  obtain ⟨fd_law_heard, F_law_heard⟩ := c.x.def_ 26 (d := d_law_heard_) rfl
  have m_law_heard := He.glo_ok X G (c.x.fact 21 (f := .glo "_law_heard") rfl)
  obtain ⟨fd_law_order_right, F_law_order_right⟩ := c.x.def_ 27 (d := d_law_order_right_) rfl
  have m_law_order_right := He.glo_ok X G (c.x.fact 22 (f := .glo "_law_order_right") rfl)
  obtain ⟨fd_law_sorted_right, F_law_sorted_right⟩ := c.x.def_ 28 (d := d_law_sorted_right_) rfl
  have m_law_sorted_right := He.glo_ok X G (c.x.fact 23 (f := .glo "_law_sorted_right") rfl)
  obtain ⟨fd_law_bytes_right, F_law_bytes_right⟩ := c.x.def_ 29 (d := d_law_bytes_right_) rfl
  have m_law_bytes_right := He.glo_ok X G (c.x.fact 24 (f := .glo "_law_bytes_right") rfl)
  obtain ⟨fd_law, F_law⟩ := c.x.def_ 30 (d := d_law_) rfl
  have m_law := He.glo_ok X G (c.x.fact 25 (f := .glo "law") rfl)
  have e := hfa.symm.trans m_law
  cases e
  have b := FunD.bindsA (ps := ["_law_script"]) F_law fun _ _ _ _ _ _ us hl => match us, hl with | [_], _ => rfl
  refine ⟨fd_law, fun s v => b s [v] rfl, fun base _ _ TB => ?_⟩
  clear X G c hfa
  have C_is_sided := k_is_sided (w := w) (base := base) (k := 0) T  F_is_sided m_is_sided (fun _ _ _ _ h => by obtain ⟨_, ⟨_, rfl, _⟩, _⟩ := h; rfl) K05.is_sided_rd
  have C_sign_rank := k_sign_rank (w := w) (base := base) (k := 1) T (C_is_sided.up (by omega)) F_sign_rank m_sign_rank (fun _ _ _ _ h => by obtain ⟨_, ⟨_, rfl, _⟩, _⟩ := h; rfl) K05.sign_rank_rd
  have C_signs_rank := k_signs_rank (w := w) (base := base) (k := 2) T (C_sign_rank.up (by omega)) F_signs_rank m_signs_rank (fun _ _ _ _ h => by obtain ⟨_, ⟨_, rfl, _⟩, _⟩ := h; rfl) K05.signs_rank_rd
  have C_is_integer := k_is_integer (w := w) (base := base) (k := 0) T  F_is_integer m_is_integer (fun _ _ _ _ h => by obtain ⟨_, ⟨_, rfl, _⟩, _⟩ := h; rfl) K05.is_integer_rd
  have C_is_number := k_is_number (w := w) (base := base) (k := 1) T (C_is_integer.up (by omega)) F_is_number m_is_number (fun _ _ _ _ h => by obtain ⟨_, ⟨_, rfl, _⟩, _⟩ := h; rfl) K05.is_number_rd
  have C_is_sign := k_is_sign (w := w) (base := base) (k := 2) T (C_is_number.up (by omega)) (C_is_sided.up (by omega)) F_is_sign m_is_sign (fun _ _ _ _ h => by obtain ⟨_, ⟨_, rfl, _⟩, _⟩ := h; rfl) K05.is_sign_rd
  have C_is_signs := k_is_signs (w := w) (base := base) (k := 3) T (C_is_sign.up (by omega)) F_is_signs m_is_signs (fun _ _ _ _ h => by obtain ⟨_, ⟨_, rfl, _⟩, _⟩ := h; rfl) K05.is_signs_rd
  have D_require_usable := d_require_usable (w := w) (base := base) (k := 2) T (by omega) F_require_usable (fun _ _ _ _ h => by obtain ⟨_, ⟨_, _, _, rfl, _⟩, _⟩ := h; rfl) K05.require_usable_rd
  have X_require_usable := k_require_usable (w := w) (base := base) (k := 2) T (by omega) F_require_usable m_require_usable (fun _ _ _ _ h => by obtain ⟨_, ⟨_, _, _, rfl, _⟩, _⟩ := h; rfl) K05.require_usable_rd
  have D_is_ahead := d_is_ahead (w := w) (base := base) (k := 4) T (C_signs_rank.up (by omega)) (C_is_signs.up (by omega)) (X_require_usable.up (by omega)) F_is_ahead (fun _ _ _ _ h => by obtain ⟨_, ⟨_, _, rfl, _⟩ | ⟨_, _, rfl, _⟩ | ⟨_, _, rfl, _⟩, _⟩ := h <;> rfl) K05.is_ahead_rd
  have X_is_ahead := k_is_ahead (w := w) (base := base) (k := 4) T (C_signs_rank.up (by omega)) (C_is_signs.up (by omega)) (X_require_usable.up (by omega)) F_is_ahead m_is_ahead (fun _ _ _ _ h => by obtain ⟨_, ⟨_, _, rfl, _⟩ | ⟨_, _, rfl, _⟩ | ⟨_, _, rfl, _⟩, _⟩ := h <;> rfl) K05.is_ahead_rd
  have C_law_order_right := k_law_order_right (w := w) (base := base) (k := 5) T ((X_is_ahead.calm K05.is_ahead_calm).up (by omega)) F_law_order_right m_law_order_right (fun _ _ _ _ h => by obtain ⟨_, _, rfl, _⟩ := h; rfl) K13.law_order_right_rd
  have C_number_codes := k_number_codes (w := w) (base := base) (k := 0) T  F_number_codes m_number_codes (fun _ _ _ _ h => by obtain ⟨_, ⟨_, rfl, _⟩, _⟩ := h; rfl) K06.number_codes_rd
  have C_sign_codes := k_sign_codes (w := w) (base := base) (k := 1) T (C_number_codes.up (by omega)) (C_is_sided.up (by omega)) F_sign_codes m_sign_codes (fun _ _ _ _ h => by obtain ⟨_, ⟨_, rfl, _⟩, _⟩ := h; rfl) K06.sign_codes_rd
  have D_packed := d_packed (w := w) (base := base) (k := 4) T (C_sign_codes.up (by omega)) (C_is_signs.up (by omega)) (X_require_usable.up (by omega)) F_packed (fun _ _ _ _ h => by obtain ⟨_, ⟨_, rfl, _⟩ | ⟨_, rfl, _⟩, _⟩ := h <;> rfl) K06.packed_rd
  have X_packed := k_packed (w := w) (base := base) (k := 4) T (C_sign_codes.up (by omega)) (C_is_signs.up (by omega)) (X_require_usable.up (by omega)) F_packed m_packed (fun _ _ _ _ h => by obtain ⟨_, ⟨_, rfl, _⟩ | ⟨_, rfl, _⟩, _⟩ := h <;> rfl) K06.packed_rd
  have D_ByteReader_has_more := d_ByteReader_has_more (w := w) (base := base) (k := 0) T  F_ByteReader_has_more (fun _ _ _ _ h => by obtain ⟨_, _, _, rfl, _⟩ := h; rfl) K06.has_more_rd
  have MC_ByteReader_has_more := mk_ByteReader_has_more T.pc_ByteReader M_ByteReader_has_more F_ByteReader_has_more D_ByteReader_has_more
  have D_ByteReader_take_byte := d_ByteReader_take_byte (w := w) (base := base) (k := 3) T (X_require_usable.up (by omega)) (MC_ByteReader_has_more.up (by omega)) F_ByteReader_take_byte (fun _ _ _ _ h => by obtain ⟨_, _, _, _, _, rfl, _⟩ := h; rfl) K06.take_byte_rd
  have MY_ByteReader_take_byte := mk_ByteReader_take_byte T.pc_ByteReader M_ByteReader_take_byte F_ByteReader_take_byte D_ByteReader_take_byte
  have D_ByteReader_take_digits := d_ByteReader_take_digits (w := w) (base := base) (k := 4) T (MY_ByteReader_take_byte.up (by omega)) F_ByteReader_take_digits (fun _ _ _ _ h => by obtain ⟨_, _, _, rfl, _⟩ := h; rfl) K06.take_digits_rd
  have MY_ByteReader_take_digits := mk_ByteReader_take_digits T.pc_ByteReader M_ByteReader_take_digits F_ByteReader_take_digits D_ByteReader_take_digits
  have D_ByteReader_take_sign := d_ByteReader_take_sign (w := w) (base := base) (k := 5) T (MY_ByteReader_take_digits.up (by omega)) (MY_ByteReader_take_byte.up (by omega)) F_ByteReader_take_sign (fun _ _ _ _ h => by obtain ⟨_, _, _, rfl, _⟩ := h; rfl) K06.take_sign_rd
  have MY_ByteReader_take_sign := mk_ByteReader_take_sign T.pc_ByteReader M_ByteReader_take_sign F_ByteReader_take_sign D_ByteReader_take_sign
  have D_ByteReader___init__ := d_ByteReader___init__ (w := w) (base := base) (k := 0) T  F_ByteReader___init__ (fun _ _ _ _ h => by obtain ⟨_, _, rfl, _⟩ := h; rfl) K06.ini_rd
  have IC_ByteReader := mk_ByteReader___init__ K_ByteReader g_ByteReader F_ByteReader___init__ D_ByteReader___init__
  have D_unpacked := d_unpacked (w := w) (base := base) (k := 6) T (X_require_usable.up (by omega)) (kp := 1) (by omega) (MC_ByteReader_has_more.up (by omega)) (MY_ByteReader_take_sign.up (by omega)) (IC_ByteReader.up (by omega)) F_unpacked (fun _ _ _ _ h => by obtain ⟨_, ⟨_, rfl, _⟩ | ⟨_, rfl, _⟩, _⟩ := h <;> rfl) K06.unpacked_rd
  have X_unpacked := k_unpacked (w := w) (base := base) (k := 6) T (X_require_usable.up (by omega)) (kp := 1) (by omega) (MC_ByteReader_has_more.up (by omega)) (MY_ByteReader_take_sign.up (by omega)) (IC_ByteReader.up (by omega)) F_unpacked m_unpacked (fun _ _ _ _ h => by obtain ⟨_, ⟨_, rfl, _⟩ | ⟨_, rfl, _⟩, _⟩ := h <;> rfl) K06.unpacked_rd
  have C_law_bytes_right := k_law_bytes_right (w := w) (base := base) (k := 7) T (TB _ (csT_at (tq := tq) 0 rfl)) (funD_code F_law_bytes_right) ((X_packed.calm K06.packed_calm).up (by omega)) (C_is_signs.up (by omega)) ((X_unpacked.calm K06.unpacked_calm).up (by omega)) (X_unpacked.up (by omega)) (k_law_heard T F_law_heard m_law_heard) F_law_bytes_right m_law_bytes_right (fun _ _ _ _ h => by obtain ⟨_, _, rfl, _⟩ := h; rfl) K13.law_bytes_right_rd
  have C_law_draw := k_law_draw (w := w) (base := base) (k := 0) T  F_law_draw m_law_draw (fun _ _ _ _ h => by obtain ⟨_, _, rfl, _⟩ := h; rfl) K05.law_draw_rd
  have C_in_sign_order := k_in_sign_order (w := w) (base := base) (k := 2) T (C_sign_rank.up (by omega)) F_in_sign_order m_in_sign_order (fun _ _ _ _ h => by obtain ⟨_, ⟨_, rfl, _⟩, _⟩ := h; rfl) K05.in_sign_order_rd
  have D_sorted_signs := d_sorted_signs (w := w) (base := base) (k := 4) T (C_in_sign_order.up (by omega)) (C_is_signs.up (by omega)) (X_require_usable.up (by omega)) F_sorted_signs (fun _ _ _ _ h => by obtain ⟨_, ⟨_, rfl, _⟩ | ⟨_, rfl, _⟩, _⟩ := h <;> rfl) K05.sorted_signs_rd
  have X_sorted_signs := k_sorted_signs (w := w) (base := base) (k := 4) T (C_in_sign_order.up (by omega)) (C_is_signs.up (by omega)) (X_require_usable.up (by omega)) F_sorted_signs m_sorted_signs (fun _ _ _ _ h => by obtain ⟨_, ⟨_, rfl, _⟩ | ⟨_, rfl, _⟩, _⟩ := h <;> rfl) K05.sorted_signs_rd
  have C_law_sorted_right := k_law_sorted_right (w := w) (base := base) (k := 5) T ((X_sorted_signs.calm K05.sorted_signs_calm).up (by omega)) ((X_is_ahead.calm K05.is_ahead_calm).up (by omega)) F_law_sorted_right m_law_sorted_right (fun _ _ _ _ h => by obtain ⟨_, rfl, _⟩ := h; rfl) K13.law_sorted_right_rd
  have D_require_paper := d_require_paper (w := w) (base := base) (k := 2) T (by omega) F_require_paper (fun _ _ _ _ h => by obtain ⟨_, ⟨_, _, rfl, _⟩, _⟩ := h; rfl) K13.require_paper_rd
  have X_require_paper := k_require_paper (w := w) (base := base) (k := 2) T (by omega) F_require_paper m_require_paper (fun _ _ _ _ h => by obtain ⟨_, ⟨_, _, rfl, _⟩, _⟩ := h; rfl) K13.require_paper_rd
  have D_lets_signs := d_lets_signs (w := w) (base := base) (k := 3) T (C_is_sign.up (by omega)) (X_require_paper.up (by omega)) F_lets_signs (fun _ _ _ _ h => by obtain ⟨_, ⟨_, rfl, _⟩, _⟩ := h; rfl) K13.lets_signs_rd
  have X_lets_signs := k_lets_signs (w := w) (base := base) (k := 3) T (C_is_sign.up (by omega)) (X_require_paper.up (by omega)) F_lets_signs m_lets_signs (fun _ _ _ _ h => by obtain ⟨_, ⟨_, rfl, _⟩, _⟩ := h; rfl) K13.lets_signs_rd
  have C_law_sign : ∀ n, n ≤ 4 → Callee (PySem.Challenge.rw_honestbars_k13_whole_orders_and_bytes).prog w K mg base (n + 1) "_law_sign" P_law_sign (K06.spSg n) := by
    intro n
    induction n with
    | zero => exact fun _ => (z_law_sign F_law_sign m_law_sign noSg0).up (by omega)
    | succ n ih => exact fun hn => k_law_sign T (ih (by omega)) (C_law_draw.up (by omega)) F_law_sign m_law_sign (fun _ _ _ _ h => by obtain ⟨_, _, rfl, _⟩ := h; rfl) (K05.law_sign_rd)
  have C_law_signs := k_law_signs (w := w) (base := base) (k := 5) T (C_law_draw.up (by omega)) ((C_law_sign 4 (by decide)).up (by omega)) F_law_signs m_law_signs (fun _ _ _ _ h => by obtain ⟨_, rfl, _⟩ := h; rfl) (K05.law_signs_rd (by omega))
  have C_law_feed := k_law_feed (w := w) (base := base) (k := 0) T  F_law_feed m_law_feed (fun _ _ _ _ h => by obtain ⟨_, rfl, _⟩ := h; rfl) K05.law_feed_rd
  exact dfn_of (k := 10) F_law sc_law (fun _ _ _ _ h => by obtain ⟨_, rfl, _⟩ := h; rfl) (b_law T (C_law_order_right.up (by omega)) (C_law_bytes_right.up (by omega)) (C_law_draw.up (by omega)) (C_law_sorted_right.up (by omega)) (C_is_sign.up (by omega)) ((X_lets_signs.calm lets_signs_calm).up (by omega)) (C_law_signs.up (by omega)) (C_law_feed.up (by omega))) K13.law_rd
end K13
open PySem Dl in
theorem PySem.Challenge.cw_honestbars_k13_whole_orders_and_bytes_holds : PySem.Challenge.rw_honestbars_k13_whole_orders_and_bytes.Holds :=
  K13.head_of fun w mg fa h K KX c G hmg => by
    obtain ⟨fd, hb, hF⟩ := K13.facts KX G hmg c
    exact ⟨K, fd, _, tabsT K K13.tq, csT K K13.tq, KX, hb, c.empty', c.out', csT_in, tabsT_cs, c.hd' KX, fun ns _ => ⟨ns, rfl, c.at_ (tq := K13.tq) 0 rfl, fun _ => rfl⟩, hF⟩


