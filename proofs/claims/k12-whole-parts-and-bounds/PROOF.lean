import PyProof.Rows.All
import Wide.All
import OpenK.AllK
import Wide.FinOn
import HandS.ForMost
import HandS.ForExc
import HandS.HeadHook1
import HandS.Slots
import HandS.Defaults
import HandS.TupAny
import HandS.TupMul
import HandS.Wide
import HandS.Style
import HandS.Star
import HandS.IsInst
import HandS.Flow
import HandS.Conv
import KE.GoesEnum
import HandS.Head0
import HandS.Head1
import HandS.Head2
import HandS.HeadEnd
import HandS.HeadHook2
import KE.DataAny
import KE.KRevSl
import HandS.Strs
import HandS.SetBool
import HandS.SetFor
import PyProof.ListNew
import HandS.SortInts
import HandS.GenList
import KE.DataEq
import HandS.TupLe
import KE.LtData
import KE.KSortTup
import HandS.SortRule
import KE.KDictList
import HandS.HeadHook3
import KE.GoesMore
import HandS.Zip
import KE.KExcSuper
import HandS.ExcInit
import HandS.Nested
import HandS.Lambda
import HandS.ExcIs
import HandS.ExcField
import KE.KExcIs
import HandS.HeadHook4
import HandS.EndTab
import HandS.NestedK
import HandS.SlotsOwn
import HandS.Property
import HandS.MakeKw
import HandS.NamedTupGet
import HandS.HotCalls
import HandS.TupSets
import KE.KIntText
import PySem.Challenge.RW_honestbars_k12_whole_parts_and_bounds
set_option Elab.async false
set_option linter.all false
set_option maxRecDepth 100000
set_option maxHeartbeats 0
namespace Dl
open PySem L2

inductive D where
  | non
  | bl (b : Bool)
  | int (i : Int)
  | str (x : Str)
  | byt (b : Array UInt8)
  | tup (xs : List D)
  | lst (xs : List D)
  | ref (a : Addr)
  /-- the script: a list of ints that is read alone -/
  | scr (ns : List Int)
  /-- a lambda, by what is true of its object and its code object (of the name q); n0, H0: what stood when it was handed on -/
  | fn (q : Str) (φ : Addr → Addr → Heap → Prop) (n0 : Addr → Prop) (H0 : Hp)
  /-- an exception at a that is handled: of the class of the name c, its fields at d -/
  | exh (a : Addr) (c : Str) (d : Addr) (ns : List Str) (vs : List D)

inductive DO where
  | lst (xs : List D)
  | dct (kvs : List (Key × D))
  | raw (o : HO)
  /-- an instance of the class of that name, its attributes -/
  | ins (c : Str) (fs : List (Str × D))
  /-- a dict whose keys are tuples of ints and texts -/
  | dtp (kvs : List (List Key × D))
  /-- a table of code objects of the name q -/
  | tab (q : Str)
  /-- an instance with slots of the class of the name c -/
  | slt (c : Str) (vs : List (Option D))

abbrev GH := Addr → Option DO
def updG (G : GH) (a : Addr) (o : DO) : GH := fun b => if b = a then some o else G b
def dropG (G : GH) (a : Addr) : GH := fun b => if b = a then none else G b
theorem updG_same {G : GH} {a : Addr} {o : DO} : updG G a o a = some o := by unfold updG; rw [if_pos rfl]
theorem updG_ne {G : GH} {a b : Addr} {o : DO} (h : b ≠ a) : updG G a o b = G b := by unfold updG; rw [if_neg h]
theorem dropG_same {G : GH} {a : Addr} : dropG G a a = none := by unfold dropG; rw [if_pos rfl]
theorem dropG_ne {G : GH} {a b : Addr} (h : b ≠ a) : dropG G a b = G b := by unfold dropG; rw [if_neg h]
theorem updG_updG {G : GH} {a : Addr} {o u : DO} : updG (updG G a o) a u = updG G a u := by
  funext b; unfold updG; split <;> rfl
theorem dropG_updG {G : GH} {a : Addr} {o : DO} (h : G a = none) : dropG (updG G a o) a = G := by
  funext b
  by_cases e : b = a
  · subst e; rw [dropG_same, h]
  · rw [dropG_ne e, updG_ne e]
def kempB (K : PySem.W.Frag) : Bool := K.any fun p => match p.2 with
  | ⟨.type c, _, .seq its _, _⟩ => decide (c = "tuple") && (match its.toList with
    | .str x _ :: _ => decide (x = ("row" : Str))
    | _ => false)
  | _ => false
def TupAt (K : PySem.W.Frag) (G : GH) (H : Hp) (a : Addr) (xs : List V) : Prop := (G a = none ∧ H a = some (.tup xs)) ∨
  (xs = [] → kempB K = true) ∧ ∃ (o : Obj) (its : Array Value) (n : Nat), K.lookup a = some o ∧ o.cls = .type "tuple" ∧ o.data = .seq its n ∧ its.size ≤ sizeLine ∧ Vals xs its.toList
def LstAt (G : GH) (H : Hp) (a : Addr) (xs : List V) : Prop := G a = none ∧ H a = some (.lst xs)
theorem TupAt.sq {K : PySem.W.Frag} {G : GH} {H : Hp} {a : Addr} {xs : List V} (h : TupAt K G H a xs) : SqT K H a xs := h.elim (fun h => .inl (.inl h.2)) (fun h => .inr h.2)
theorem LstAt.sq {K : PySem.W.Frag} {G : GH} {H : Hp} {a : Addr} {xs : List V} (h : LstAt G H a xs) : SqL K H a xs := SqL.of h.2
def ScrAt (K : PySem.W.Frag) (G : GH) (H : Hp) (a : Addr) (xs : List V) : Prop := (G a = none ∧ Rd H a (.lst xs)) ∨
  ∃ (o : Obj) (its : Array Value) (n : Nat), K.lookup a = some o ∧ o.cls = .type "list" ∧ o.dict = none ∧ o.data = .seq its n ∧ its.size ≤ sizeLine ∧ Vals xs its.toList
theorem ScrAt.sq {K : PySem.W.Frag} {G : GH} {H : Hp} {a : Addr} {xs : List V} (h : ScrAt K G H a xs) : SqL K H a xs := h.elim (fun h => .inl h.2) .inr
def CodeQ (c : Addr) (q : Str) : HO := .ext fun h => ∃ (oc : Obj) (vs : Array Value) (t : Tok), h.get? c = some oc ∧ oc.data = .fields vs ∧ vs[1]? = some (.str q t)
mutual
def RepV (K : PySem.W.Frag) (G : GH) (H : Hp) : D → V → Prop
  | .non, v => v = .non
  | .bl b, v => v = .bl b
  | .int i, v => v = .int i
  | .str x, v => v = .str x
  | .byt x, v => v = .byt x
  | .tup ds, v => ∃ a xs, v = .ref a ∧ TupAt K G H a xs ∧ RepL K G H ds xs
  | .lst ds, v => ∃ a xs, v = .ref a ∧ LstAt G H a xs ∧ RepL K G H ds xs
  | .ref a, v => v = .ref a
  | .scr ns, v => ∃ a, v = .ref a ∧ ScrAt K G H a (ns.map V.int)
  | .fn q φ n0 H0, v => ∃ a c, v = .ref a ∧ G a = none ∧ H a = some (.ext (φ a c)) ∧ G c = none ∧ H c = some (CodeQ c q) ∧ ∀ b o, H0 b = some o → (∃ o', H b = some o') ∧ (n0 b → G b = none ∧ H b = some o)
  | .exh a c d ns ds, v => ∃ ws : List (Str × V), v = .ref a ∧ G d = none ∧ H d = some (.xd ws) ∧ ws.map (·.1) = ns ∧ RepL K G H ds (ws.map (·.2))
def RepL (K : PySem.W.Frag) (G : GH) (H : Hp) : List D → List V → Prop
  | [], xs => xs = []
  | d :: ds, xs => ∃ x r, xs = x :: r ∧ RepV K G H d x ∧ RepL K G H ds r
end

def Ext (G : GH) (H : Hp) (G' : GH) (H' : Hp) : Prop := ∀ a o, H a = some o → (∃ o', H' a = some o') ∧ (G a = none → G' a = none ∧ H' a = some o)
theorem Ext.refl (G : GH) (H : Hp) : Ext G H G H := fun a o h => ⟨⟨o, h⟩, fun g => ⟨g, h⟩⟩
theorem Ext.trans {G G1 G2 : GH} {H H1 H2 : Hp} (a : Ext G H G1 H1) (b : Ext G1 H1 G2 H2) : Ext G H G2 H2 := fun x o h => by
  obtain ⟨⟨o1, h1⟩, k⟩ := a x o h
  obtain ⟨⟨o2, h2⟩, _⟩ := b x o1 h1
  refine ⟨⟨o2, h2⟩, fun g => ?_⟩
  obtain ⟨g1, e1⟩ := k g
  exact (b x o e1).2 g1
theorem Ext.new {G : GH} {H : Hp} {p : Addr} {o : HO} (h : H p = none) : Ext G H G (upd H p o) := fun a u e => by
  have n : a ≠ p := ne_of_none e h
  rw [upd_ne n]
  exact ⟨⟨u, e⟩, fun g => ⟨g, e⟩⟩
theorem Ext.newG {G : GH} {H : Hp} {p : Addr} {o : HO} {u : DO} (h : H p = none) : Ext G H (updG G p u) (upd H p o) := fun a v e => by
  have n : a ≠ p := ne_of_none e h
  rw [upd_ne n, updG_ne n]
  exact ⟨⟨v, e⟩, fun g => ⟨g, e⟩⟩
theorem Ext.write {G : GH} {H : Hp} {p : Addr} {o : HO} {u w : DO} (h : G p = some w) : Ext G H (updG G p u) (upd H p o) := fun a v e => by
  by_cases n : a = p
  · subst n
    refine ⟨⟨_, upd_same⟩, fun g => ?_⟩
    rw [h] at g; cases g
  · rw [upd_ne n, updG_ne n]
    exact ⟨⟨v, e⟩, fun g => ⟨g, e⟩⟩
theorem Ext.drop {G : GH} {H : Hp} {p : Addr} : Ext G H (dropG G p) H := fun a v e => by
  refine ⟨⟨v, e⟩, fun g => ⟨?_, e⟩⟩
  by_cases n : a = p
  · subst n; exact dropG_same
  · rw [dropG_ne n]; exact g

def TabD (G : GH) (H : Hp) (a : Addr) (q : Str) : Prop :=
  ∃ ps : Array Value, H a = some (.tbl ps) ∧ TriplesOk ps.toList ∧ ∀ (pos : Pos) (cv : Value), codeAmong pos ps.toList = some cv → ∃ c, cv = .ref c ∧ G c = none ∧ H c = some (CodeQ c q)
def RepO (K : PySem.W.Frag) (G : GH) (H : Hp) (vs : List (Option D)) (ws : List (Option V)) : Prop := vs.length = ws.length ∧ ∀ (i : Nat) (d : D), vs[i]? = some (some d) → ∃ v, ws[i]? = some (some v) ∧ RepV K G H d v
def SltD (K : PySem.W.Frag) (G : GH) (H : Hp) (a : Addr) (c : Str) (vs : List (Option D)) : Prop := ∃ (dx : Addr) (ws : List (Option V)), G dx = none ∧ H a = some (SlX.SlO a (He.ga K c) dx ws) ∧ H dx = some (.xd []) ∧ RepO K G H vs ws
def DOk (K : PySem.W.Frag) (G : GH) (H : Hp) (a : Addr) : DO → Prop
  | .lst ds => ∃ xs, H a = some (.lst xs) ∧ RepL K G H ds xs
  | .dct kvs => ∃ ws : List (Key × V), H a = some (.dK ws) ∧ ws.map (·.1) = kvs.map (·.1) ∧ RepL K G H (kvs.map (·.2)) (ws.map (·.2))
  | .raw o => H a = some o
  | .ins c fs => ∃ (dx : Addr) (ws : List (Str × V)), H a = some (.ins (He.ga K c) dx ws) ∧ ws.map (·.1) = fs.map (·.1) ∧ RepL K G H (fs.map (·.2)) (ws.map (·.2))
  | .dtp kvs => ∃ ws : List (List Key × V), H a = some (.dT ws) ∧ ws.map (·.1) = kvs.map (·.1) ∧ RepL K G H (kvs.map (·.2)) (ws.map (·.2))
  | .tab q => TabD G H a q
  | .slt c vs => SltD K G H a c vs
def GOk (K : PySem.W.Frag) (G : GH) (H : Hp) : Prop := ∀ a o, G a = some o → DOk K G H a o
theorem DOk.there {K : PySem.W.Frag} {G : GH} {H : Hp} {a : Addr} {o : DO} (h : DOk K G H a o) : ∃ u, H a = some u := by
  cases o with
  | lst ds => obtain ⟨xs, e, _⟩ := h; exact ⟨_, e⟩
  | dct kvs => obtain ⟨xs, e, _⟩ := h; exact ⟨_, e⟩
  | dtp kvs => obtain ⟨xs, e, _⟩ := h; exact ⟨_, e⟩
  | raw u => exact ⟨u, h⟩
  | ins c fs => obtain ⟨dx, xs, e, _⟩ := h; exact ⟨_, e⟩
  | tab q => obtain ⟨ps, e, _⟩ := h; exact ⟨_, e⟩
  | slt c vs => obtain ⟨dx, ws, _, e, _⟩ := h; exact ⟨_, e⟩
theorem GOk.fresh {K : PySem.W.Frag} {G : GH} {H : Hp} (g : GOk K G H) {p : Addr} (h : H p = none) : G p = none := by
  cases q : G p with
  | none => rfl
  | some o =>
    obtain ⟨u, e⟩ := (g p o q).there
    rw [h] at e; cases e

section
variable {K : PySem.W.Frag} {G G' : GH} {H H' : Hp}
theorem TabD.ext (e : Ext G H G' H') {a : Addr} {q : Str} (h : TabD G H a q) (ha : H' a = H a) : TabD G' H' a q := by
  obtain ⟨ps, h1, h2, h3⟩ := h
  refine ⟨ps, ha.trans h1, h2, fun pos cv hc => ?_⟩
  obtain ⟨c, e1, g, e2⟩ := h3 pos cv hc
  exact ⟨c, e1, (e _ _ e2).2 g⟩
theorem TupAt.ext (e : Ext G H G' H') {a : Addr} {xs : List V} (h : TupAt K G H a xs) : TupAt K G' H' a xs := by
  rcases h with ⟨g, h⟩ | h
  · exact .inl (((e _ _ h).2 g))
  · exact .inr h
theorem ScrAt.ext (e : Ext G H G' H') {a : Addr} {xs : List V} (h : ScrAt K G H a xs) : ScrAt K G' H' a xs := by
  rcases h with ⟨g, h | ⟨o, h⟩⟩ | h
  · exact .inl ⟨((e _ _ h).2 g).1, .inl ((e _ _ h).2 g).2⟩
  · exact .inl ⟨((e _ _ h).2 g).1, .inr ⟨o, ((e _ _ h).2 g).2⟩⟩
  · exact .inr h
theorem LstAt.ext (e : Ext G H G' H') {a : Addr} {xs : List V} (h : LstAt G H a xs) : LstAt G' H' a xs := (e _ _ h.2).2 h.1
mutual
theorem RepV.ext (e : Ext G H G' H') : ∀ {d : D} {v : V}, RepV K G H d v → RepV K G' H' d v
  | .non, _, h => h
  | .bl _, _, h => h
  | .int _, _, h => h
  | .str _, _, h => h
  | .byt _, _, h => h
  | .tup _, _, h => by
    unfold RepV at h ⊢
    obtain ⟨a, xs, ev, t, r⟩ := h
    exact ⟨a, xs, ev, t.ext e, r.ext e⟩
  | .lst _, _, h => by
    unfold RepV at h ⊢
    obtain ⟨a, xs, ev, t, r⟩ := h
    exact ⟨a, xs, ev, t.ext e, r.ext e⟩
  | .ref _, _, h => h
  | .scr _, _, h => by
    unfold RepV at h ⊢
    obtain ⟨a, ev, t⟩ := h
    exact ⟨a, ev, t.ext e⟩
  | .fn _ _ _ _, _, h => by
    unfold RepV at h ⊢
    obtain ⟨a, c, ev, g, t, g2, t2, k⟩ := h
    refine ⟨a, c, ev, ((e _ _ t).2 g).1, ((e _ _ t).2 g).2, ((e _ _ t2).2 g2).1, ((e _ _ t2).2 g2).2, fun b o z => ?_⟩
    obtain ⟨⟨o1, h1⟩, h2⟩ := k b o z
    exact ⟨(e b o1 h1).1, fun n => (e b o (h2 n).2).2 (h2 n).1⟩
  | .exh _ _ _ _ _, _, h => by
    unfold RepV at h ⊢
    obtain ⟨ws, ev, g, t, n, r⟩ := h
    exact ⟨ws, ev, ((e _ _ t).2 g).1, ((e _ _ t).2 g).2, n, r.ext e⟩
theorem RepL.ext (e : Ext G H G' H') : ∀ {ds : List D} {xs : List V}, RepL K G H ds xs → RepL K G' H' ds xs
  | [], _, h => h
  | _ :: _, _, h => by
    unfold RepL at h ⊢
    obtain ⟨x, r, ev, h1, h2⟩ := h
    exact ⟨x, r, ev, h1.ext e, h2.ext e⟩
end
theorem RepO.ext (e : Ext G H G' H') {vs : List (Option D)} {ws : List (Option V)} (h : RepO K G H vs ws) : RepO K G' H' vs ws := ⟨h.1, fun i d q => by obtain ⟨v, h1, h2⟩ := h.2 i d q; exact ⟨v, h1, h2.ext e⟩⟩
theorem SltD.ext (e : Ext G H G' H') {a : Addr} {c : Str} {vs : List (Option D)} (h : SltD K G H a c vs) (ha : H' a = H a) : SltD K G' H' a c vs := by
  obtain ⟨dx, ws, g, h1, h2, r⟩ := h
  obtain ⟨g', e'⟩ := (e _ _ h2).2 g
  exact ⟨dx, ws, g', by rw [ha]; exact h1, e', r.ext e⟩
theorem RepL.length : ∀ {ds : List D} {xs : List V}, RepL K G H ds xs → xs.length = ds.length
  | [], _, h => by unfold RepL at h; rw [h]; rfl
  | _ :: ds, _, h => by
    unfold RepL at h
    obtain ⟨x, r, rfl, _, h2⟩ := h
    simp [RepL.length h2]
theorem repL_nil : RepL K G H [] [] := by unfold RepL; rfl
theorem repL_cons {d : D} {ds : List D} {x : V} {xs : List V} (h : RepV K G H d x) (r : RepL K G H ds xs) : RepL K G H (d :: ds) (x :: xs) := by
  unfold RepL; exact ⟨x, xs, rfl, h, r⟩
theorem repL_one {d : D} {x : V} (h : RepV K G H d x) : RepL K G H [d] [x] := repL_cons h repL_nil
theorem RepL.append : ∀ {ds es : List D} {xs ys : List V}, RepL K G H ds xs → RepL K G H es ys → RepL K G H (ds ++ es) (xs ++ ys)
  | [], _, _, _, h, r => by unfold RepL at h; subst h; exact r
  | _ :: _, _, _, _, h, r => by
    unfold RepL at h
    obtain ⟨x, t, rfl, h1, h2⟩ := h
    exact repL_cons h1 (RepL.append h2 r)
theorem RepL.get : ∀ {ds : List D} {xs : List V} {i : Nat} {d : D}, RepL K G H ds xs → ds[i]? = some d → ∃ x, xs[i]? = some x ∧ RepV K G H d x
  | [], _, _, _, _, e => by simp at e
  | _ :: _, _, 0, _, h, e => by
    unfold RepL at h
    obtain ⟨x, t, rfl, h1, h2⟩ := h
    simp at e; subst e
    exact ⟨x, rfl, h1⟩
  | _ :: ds, _, i + 1, d, h, e => by
    unfold RepL at h
    obtain ⟨x, t, rfl, h1, h2⟩ := h
    obtain ⟨y, e1, e2⟩ := RepL.get (i := i) (d := d) h2 (by simpa using e)
    exact ⟨y, by simpa using e1, e2⟩
theorem RepL.take : ∀ {ds : List D} {xs : List V} (n : Nat), RepL K G H ds xs → RepL K G H (ds.take n) (xs.take n)
  | _, _, 0, _ => by simp [repL_nil]
  | [], _, _ + 1, h => by unfold RepL at h; subst h; simp [repL_nil]
  | _ :: _, _, n + 1, h => by
    unfold RepL at h
    obtain ⟨x, t, rfl, h1, h2⟩ := h
    exact repL_cons h1 (RepL.take n h2)
theorem RepL.drop : ∀ {ds : List D} {xs : List V} (n : Nat), RepL K G H ds xs → RepL K G H (ds.drop n) (xs.drop n)
  | _, _, 0, h => by simpa using h
  | [], _, _ + 1, h => by unfold RepL at h; subst h; simp [repL_nil]
  | _ :: _, _, n + 1, h => by
    unfold RepL at h
    obtain ⟨x, t, rfl, h1, h2⟩ := h
    exact RepL.drop n h2
theorem RepL.reverse : ∀ {ds : List D} {xs : List V}, RepL K G H ds xs → RepL K G H ds.reverse xs.reverse
  | [], _, h => by unfold RepL at h; subst h; simp [repL_nil]
  | _ :: _, _, h => by
    unfold RepL at h
    obtain ⟨x, t, rfl, h1, h2⟩ := h
    simp only [List.reverse_cons]
    exact (RepL.reverse h2).append (repL_one h1)
theorem RepL.dropLast {ds : List D} {xs : List V} (h : RepL K G H ds xs) : RepL K G H ds.dropLast xs.dropLast := by
  rw [List.dropLast_eq_take, List.dropLast_eq_take, h.length]
  exact h.take _
theorem RepL.rep {ds : List D} {xs : List V} (h : RepL K G H ds xs) : ∀ k : Nat, RepL K G H (List.replicate k ds).flatten (List.replicate k xs).flatten
  | 0 => by simp [repL_nil]
  | k + 1 => by simp only [List.replicate_succ, List.flatten_cons]; exact h.append (RepL.rep h k)
theorem repL_ints : ∀ {ns : List Int} {xs : List V}, RepL K G H (ns.map D.int) xs → xs = ns.map V.int
  | [], _, h => by simpa [RepL] using h
  | n :: ns, _, h => by
    simp only [List.map_cons] at h
    unfold RepL at h
    obtain ⟨x, t, rfl, h1, h2⟩ := h
    unfold RepV at h1
    rw [h1, repL_ints h2]; rfl
theorem repL_of_ints : ∀ {ns : List Int}, RepL K G H (ns.map D.int) (ns.map V.int)
  | [] => repL_nil
  | n :: ns => repL_cons (by unfold RepV; rfl) repL_of_ints
theorem GOk.new (g : GOk K G H) {p : Addr} {o : HO} (h : H p = none) : GOk K G (upd H p o) := fun a u e => by
  have x := g a u e
  have ex : Ext G H G (upd H p o) := Ext.new h
  have n : a ≠ p := by obtain ⟨w, ew⟩ := x.there; exact ne_of_none ew h
  cases u with
  | lst ds => obtain ⟨xs, e1, r⟩ := x; exact ⟨xs, by rw [upd_ne n]; exact e1, r.ext ex⟩
  | dct kvs => obtain ⟨xs, e1, e2, r⟩ := x; exact ⟨xs, by rw [upd_ne n]; exact e1, e2, r.ext ex⟩
  | dtp kvs => obtain ⟨xs, e1, e2, r⟩ := x; exact ⟨xs, by rw [upd_ne n]; exact e1, e2, r.ext ex⟩
  | raw w => show upd H p o a = some w; rw [upd_ne n]; exact x
  | ins c fs => obtain ⟨dx, xs, e1, e2, r⟩ := x; exact ⟨dx, xs, by rw [upd_ne n]; exact e1, e2, r.ext ex⟩
  | tab q => exact TabD.ext ex x (upd_ne n)
  | slt c vs => exact SltD.ext ex x (upd_ne n)
theorem GOk.put (g : GOk K G H) {p : Addr} {o : HO} {u : DO} (ex : Ext G H (updG G p u) (upd H p o)) (new : DOk K (updG G p u) (upd H p o) p u) : GOk K (updG G p u) (upd H p o) := fun a w e => by
  by_cases n : a = p
  · subst n
    rw [updG_same] at e; cases e
    exact new
  · rw [updG_ne n] at e
    have x := g a w e
    cases w with
    | lst ds => obtain ⟨xs, e1, r⟩ := x; exact ⟨xs, by rw [upd_ne n]; exact e1, r.ext ex⟩
    | dct kvs => obtain ⟨xs, e1, e2, r⟩ := x; exact ⟨xs, by rw [upd_ne n]; exact e1, e2, r.ext ex⟩
    | dtp kvs => obtain ⟨xs, e1, e2, r⟩ := x; exact ⟨xs, by rw [upd_ne n]; exact e1, e2, r.ext ex⟩
    | raw w => show upd H p o a = some w; rw [upd_ne n]; exact x
    | ins c fs => obtain ⟨dx, xs, e1, e2, r⟩ := x; exact ⟨dx, xs, by rw [upd_ne n]; exact e1, e2, r.ext ex⟩
    | tab q => exact TabD.ext ex x (upd_ne n)
    | slt c vs => exact SltD.ext ex x (upd_ne n)
theorem GOk.drop (g : GOk K G H) {p : Addr} : GOk K (dropG G p) H := fun a w e => by
  by_cases n : a = p
  · subst n; rw [dropG_same] at e; cases e
  · rw [dropG_ne n] at e
    have ex : Ext G H (dropG G p) H := Ext.drop
    have x := g a w e
    cases w with
    | lst ds => obtain ⟨xs, e1, r⟩ := x; exact ⟨xs, e1, r.ext ex⟩
    | dct kvs => obtain ⟨xs, e1, e2, r⟩ := x; exact ⟨xs, e1, e2, r.ext ex⟩
    | dtp kvs => obtain ⟨xs, e1, e2, r⟩ := x; exact ⟨xs, e1, e2, r.ext ex⟩
    | raw w => exact x
    | ins c fs => obtain ⟨dx, xs, e1, e2, r⟩ := x; exact ⟨dx, xs, e1, e2, r.ext ex⟩
    | tab q => exact TabD.ext ex x rfl
    | slt c vs => exact SltD.ext ex x rfl
end
end Dl

namespace Dl
open PySem L2

abbrev DSt := List (Option D)
def sl : DSt → Nat → Option D
  | [], _ => none
  | x :: _, 0 => x
  | _ :: r, i + 1 => sl r i
theorem sl_get : ∀ {ρ : DSt} {i : Nat} {d : D}, sl ρ i = some d → ρ[i]? = some (some d)
  | [], _, _, h => by simp [sl] at h
  | _ :: _, 0, _, h => by simp [sl] at h; simp [h]
  | _ :: r, i + 1, d, h => by simp [sl] at h; simpa using sl_get h
structure DRel (K : PySem.W.Frag) (σ : St) (H : Hp) (ρ : DSt) (G : GH) : Prop where
  len : ρ.length = σ.length
  at_ : ∀ (i : Nat) (d : D), ρ[i]? = some (some d) → ∃ v, σ[i]? = some (some v) ∧ RepV K G H d v
  gok : GOk K G H
section
variable {K : PySem.W.Frag} {σ : St} {H H' : Hp} {ρ : DSt} {G G' : GH}
theorem DRel.ext (r : DRel K σ H ρ G) (e : Ext G H G' H') (g : GOk K G' H') : DRel K σ H' ρ G' :=
  ⟨r.len, fun i d h => let ⟨v, h1, h2⟩ := r.at_ i d h; ⟨v, h1, h2.ext e⟩, g⟩
theorem DRel.set (r : DRel K σ H ρ G) (i : Nat) {d : D} {v : V} (h : RepV K G H d v) : DRel K (σ.set i (some v)) H (ρ.set i (some d)) G := by
  refine ⟨by simp [r.len], fun j e hj => ?_, r.gok⟩
  by_cases q : i = j
  · subst q
    by_cases hl : i < ρ.length
    · rw [List.getElem?_set_self hl] at hj
      cases hj
      exact ⟨v, List.getElem?_set_self (by rw [← r.len]; exact hl), h⟩
    · rw [List.getElem?_eq_none (by simpa using hl)] at hj; cases hj
  · rw [List.getElem?_set_ne q] at hj
    obtain ⟨w, h1, h2⟩ := r.at_ j e hj
    exact ⟨w, by rw [List.getElem?_set_ne q]; exact h1, h2⟩
theorem DRel.sl (r : DRel K σ H ρ G) {i : Nat} {d : D} (h : Dl.sl ρ i = some d) : ∃ v, σ[i]? = some (some v) ∧ RepV K G H d v := r.at_ i d (sl_get h)
end

abbrev DK := D → GH → Prop
abbrev DTE := DSt → GH → DK → Prop
abbrev DTT := DSt → GH → (Bool → GH → Prop) → Prop
abbrev DTA := DSt → GH → (List D → GH → Prop) → Prop
structure DEnds where
  nx : DSt → GH → Prop
  rt : DK
  bk : DSt → GH → Prop := fun _ _ => False
  ct : DSt → GH → Prop := fun _ _ => False
abbrev DTS := DEnds → DSt → GH → Prop
abbrev DTG := D → DSt → GH → (DSt → GH → Prop) → Prop
abbrev DTGs := List D → DSt → GH → (DSt → GH → Prop) → Prop

def up (K : PySem.W.Frag) (t : DTE) : TE := fun σ H Qv => ∃ ρ G Q, DRel K σ H ρ G ∧ t ρ G Q ∧ ∀ v d H' G', Ext G H G' H' → DRel K σ H' ρ G' → RepV K G' H' d v → Q d G' → Qv v H'
def upT (K : PySem.W.Frag) (t : DTT) : TT := fun σ H Qv => ∃ ρ G Q, DRel K σ H ρ G ∧ t ρ G Q ∧ ∀ b H' G', Ext G H G' H' → DRel K σ H' ρ G' → Q b G' → Qv b H'
def upA (K : PySem.W.Frag) (t : DTA) : TA := fun σ H Qv => ∃ ρ G Q, DRel K σ H ρ G ∧ t ρ G Q ∧ ∀ vs ds H' G', Ext G H G' H' → DRel K σ H' ρ G' → RepL K G' H' ds vs → Q ds G' → Qv vs H'
def upS (K : PySem.W.Frag) (t : DTS) : TS := fun Dv σ H => ∃ (ρ : DSt) (G : GH) (E : DEnds), DRel K σ H ρ G ∧ t E ρ G ∧
  (∀ σ' ρ' H' G', Ext G H G' H' → DRel K σ' H' ρ' G' → E.nx ρ' G' → Dv.nx σ' H') ∧
  (∀ v d H' G', Ext G H G' H' → GOk K G' H' → RepV K G' H' d v → E.rt d G' → Dv.rt v H') ∧
  (∀ σ' ρ' H' G', Ext G H G' H' → DRel K σ' H' ρ' G' → E.bk ρ' G' → Dv.bk σ' H') ∧
  (∀ σ' ρ' H' G', Ext G H G' H' → DRel K σ' H' ρ' G' → E.ct ρ' G' → Dv.ct σ' H')
def upG (K : PySem.W.Frag) (g : DTG) : TG := fun v σ H Qv => ∃ ρ G d Q, DRel K σ H ρ G ∧ RepV K G H d v ∧ g d ρ G Q ∧ ∀ σ' ρ' H' G', Ext G H G' H' → DRel K σ' H' ρ' G' → Q ρ' G' → Qv σ' H'
def upGs (K : PySem.W.Frag) (g : DTGs) : TGs := fun vs σ H Qv => ∃ ρ G ds Q, DRel K σ H ρ G ∧ RepL K G H ds vs ∧ g ds ρ G Q ∧ ∀ σ' ρ' H' G', Ext G H G' H' → DRel K σ' H' ρ' G' → Q ρ' G' → Qv σ' H'

abbrev DE (X : Cx) (e : Expr) (t : DTE) : Prop := PE X e (up X.K t)
abbrev DT (X : Cx) (e : Expr) (t : DTT) : Prop := PT X e (upT X.K t)
abbrev DA (X : Cx) (es : List Expr) (t : DTA) : Prop := PA X es (upA X.K t)
abbrev DS (X : Cx) (st : Stmt) (t : DTS) : Prop := PS X st (upS X.K t)
abbrev DSs (X : Cx) (sts : List Stmt) (t : DTS) : Prop := PSs X sts (upS X.K t)
abbrev DG (X : Cx) (e : Expr) (t : DTG) : Prop := PG X e (upG X.K t)
abbrev DGs (X : Cx) (es : List Expr) (t : DTGs) : Prop := PGs X es (upGs X.K t)

section
variable {X : Cx}
theorem _root_.L2.PE.imp {e : Expr} {t t' : TE} (h : PE X e t) (i : ∀ σ H Q, t' σ H Q → t σ H Q) : PE X e t' := ⟨fun pins s σ H Q I q => h.run pins s σ H Q I (i σ H Q q)⟩
theorem _root_.L2.PT.imp {e : Expr} {t t' : TT} (h : PT X e t) (i : ∀ σ H Q, t' σ H Q → t σ H Q) : PT X e t' := ⟨fun pins s σ H Q I q => h.run pins s σ H Q I (i σ H Q q)⟩
theorem _root_.L2.PW.imp {e : Expr} {t t' : TT} (h : PW X e t) (i : ∀ σ H Q, t' σ H Q → t σ H Q) : PW X e t' := ⟨fun wh pins s σ H Q I q => h.run wh pins s σ H Q I (i σ H Q q)⟩
theorem _root_.L2.PA.imp {es : List Expr} {t t' : TA} (h : PA X es t) (i : ∀ σ H Q, t' σ H Q → t σ H Q) : PA X es t' := ⟨fun pos pins s σ H Q I q => h.run pos pins s σ H Q I (i σ H Q q)⟩
theorem _root_.L2.PS.imp {st : Stmt} {t t' : TS} (h : PS X st t) (i : ∀ D σ H, t' D σ H → t D σ H) : PS X st t' := ⟨fun pins s σ H D I q => h.run pins s σ H D I (i D σ H q)⟩
theorem _root_.L2.PSs.imp {st : List Stmt} {t t' : TS} (h : PSs X st t) (i : ∀ D σ H, t' D σ H → t D σ H) : PSs X st t' := ⟨fun pins s σ H D I q => h.run pins s σ H D I (i D σ H q)⟩
theorem _root_.L2.PG.imp {e : Expr} {t t' : TG} (h : PG X e t) (i : ∀ v σ H Q, t' v σ H Q → t v σ H Q) : PG X e t' := ⟨fun pins s σ H v u Q I r q => h.run pins s σ H v u Q I r (i v σ H Q q)⟩
theorem _root_.L2.PGs.imp {es : List Expr} {t t' : TGs} (h : PGs X es t) (i : ∀ v σ H Q, t' v σ H Q → t v σ H Q) : PGs X es t' := ⟨fun pins s σ H v u Q I r q => h.run pins s σ H v u Q I r (i v σ H Q q)⟩

@[simp] def dVar (i : Nat) : DTE := fun ρ G Q => match sl ρ i with
  | some d => Q d G
  | none => False
@[simp] def dC (d : D) : DTE := fun _ G Q => Q d G
theorem dVar_of {ρ : DSt} {G : GH} {Q : DK} {i : Nat} (h : dVar i ρ G Q) : ∃ d, sl ρ i = some d ∧ Q d G := by
  unfold dVar at h
  split at h
  · exact ⟨_, by assumption, h⟩
  · exact h.elim
theorem de_var {i : Nat} {x : Str} {pos : Pos} (hN : X.N[i]? = some x) (hv : Vis X.env.scope x) (hd : (x == ("__debug__" : Str)) = false := by decide) (hcd : (x == ("__classdict__" : Str)) = false := by decide) : DE X (.Name x pos) (dVar i) := by
  refine (pe_var hN hv hd hcd).imp fun σ H Q ⟨ρ, G, q, r, h, k⟩ => ?_
  obtain ⟨d, e, h⟩ := dVar_of h
  obtain ⟨v, e1, e2⟩ := r.sl e
  exact ⟨v, e1, k v d H G (Ext.refl G H) r e2 h⟩
theorem dv (i : Nat) {x : Str} {pos : Pos} (hN : X.N[i]? = some x := by rfl) (hv : Vis X.env.scope x := by first | exact Or.inl rfl | exact Or.inr (Or.inl rfl) | exact Or.inr (Or.inr rfl)) (hd : (x == ("__debug__" : Str)) = false := by decide)
    (hcd : (x == ("__classdict__" : Str)) = false := by decide) : DE X (.Name x pos) (dVar i) := de_var hN hv hd hcd
theorem de_c {e : Expr} {v : V} {d : D} (h : PE X e (tC v)) (r : ∀ G H, RepV X.K G H d v) : DE X e (dC d) :=
  h.imp fun σ H Q ⟨ρ, G, q, rel, h, k⟩ => k v d H G (Ext.refl G H) rel (r G H) h
theorem de_int {i j pos} : DE X (.Constant (.int i) j pos) (dC (.int i)) := de_c pe_int fun _ _ => by unfold RepV; rfl
theorem de_bl {b j pos} : DE X (.Constant (.bool b) j pos) (dC (.bl b)) := de_c pe_bl fun _ _ => by unfold RepV; rfl
theorem de_non {j pos} : DE X (.Constant .none j pos) (dC .non) := de_c pe_non fun _ _ => by unfold RepV; rfl
theorem de_str {x j pos} : DE X (.Constant (.str x) j pos) (dC (.str x)) := de_c pe_str fun _ _ => by unfold RepV; rfl
def GlD (X : Cx) (x : Str) (d : D) : Prop := ∃ u, X.mg x = some u ∧ ∃ v, RelV v u ∧ ∀ G H, RepV X.K G H d v
theorem de_glob {x : Str} {d : D} {pos : Pos} (hg : Gl X x) (hm : GlD X x d) (hd : (x == ("__debug__" : Str)) = false := by decide) : DE X (.Name x pos) (dC d) := by
  obtain ⟨u, h1, v, h2, h3⟩ := hm
  exact de_c (pe_glob hg h1 h2 hd) h3

@[simp] def dNil : DTA := fun _ G Q => Q [] G
@[simp] def dCons (ta : DTE) (tr : DTA) : DTA := fun ρ G Q => ta ρ G fun x G1 => tr ρ G1 fun xs G2 => Q (x :: xs) G2
theorem da_nil : DA X [] dNil := (pa_nil (X := X)).imp fun σ H Q ⟨ρ, G, q, r, h, k⟩ => k [] [] H G (Ext.refl G H) r repL_nil h
theorem da_cons {e : Expr} {es : List Expr} {te : DTE} {t : DTA} (ha : DE X e te) (hr : DA X es t) (hs : starEach (e :: es) X.env = (false, eval e X.env) :: starEach es X.env := by rfl) : DA X (e :: es) (dCons te t) := by
  refine (pa_cons ha hr hs).imp fun σ H Q ⟨ρ, G, q, r, h, k⟩ => ?_
  refine ⟨ρ, G, _, r, h, fun v d H1 G1 e1 r1 v1 h1 => ?_⟩
  refine ⟨ρ, G1, _, r1, h1, fun vs ds H2 G2 e2 r2 v2 h2 => ?_⟩
  exact k (v :: vs) (d :: ds) H2 G2 (e1.trans e2) r2 (repL_cons (v1.ext e2) v2) h2
@[simp] def dTup (t : DTA) : DTE := fun ρ G Q => t ρ G fun xs G1 => xs.length ≤ sizeLine ∧ Q (.tup xs) G1
@[simp] def dLst (t : DTA) : DTE := fun ρ G Q => t ρ G fun xs G1 => xs.length ≤ sizeLine ∧ ∀ p, G1 p = none → Q (.ref p) (updG G1 p (.lst xs))
theorem DRel.newTup {K : PySem.W.Frag} {σ : St} {H : Hp} {ρ : DSt} {G : GH} {p : Addr} {ds : List D} {vs : List V} (r : DRel K σ H ρ G) (hp : H p = none) (hv : RepL K G H ds vs) :
    Ext G H G (upd H p (.tup vs)) ∧ DRel K σ (upd H p (.tup vs)) ρ G ∧ RepV K G (upd H p (.tup vs)) (.tup ds) (.ref p) := by
  have e : Ext G H G (upd H p (.tup vs)) := Ext.new hp
  refine ⟨e, r.ext e (r.gok.new hp), ?_⟩
  unfold RepV
  exact ⟨p, vs, rfl, .inl ⟨r.gok.fresh hp, upd_same⟩, hv.ext e⟩
theorem DRel.newLst {K : PySem.W.Frag} {σ : St} {H : Hp} {ρ : DSt} {G : GH} {p : Addr} {ds : List D} {vs : List V} (r : DRel K σ H ρ G) (hp : H p = none) (hv : RepL K G H ds vs) :
    Ext G H (updG G p (.lst ds)) (upd H p (.lst vs)) ∧ DRel K σ (upd H p (.lst vs)) ρ (updG G p (.lst ds)) ∧ RepV K (updG G p (.lst ds)) (upd H p (.lst vs)) (.ref p) (.ref p) := by
  have e : Ext G H (updG G p (.lst ds)) (upd H p (.lst vs)) := Ext.newG hp
  refine ⟨e, r.ext e (r.gok.put e ⟨vs, upd_same, hv.ext e⟩), by unfold RepV; rfl⟩
theorem de_tup {es : List Expr} {t : DTA} {x1} {pos : Pos} (h : DA X es t) : DE X (.Tuple es x1 pos) (dTup t) := by
  refine (pe_tup h).imp fun σ H Q ⟨ρ, G, q, r, h, k⟩ => ?_
  refine ⟨ρ, G, _, r, h, fun vs ds H1 G1 e1 r1 v1 ⟨z, h1⟩ => ⟨by rw [v1.length]; exact z, fun p hp => ?_⟩⟩
  obtain ⟨e2, r2, v2⟩ := r1.newTup hp v1
  exact k _ _ _ _ (e1.trans e2) r2 v2 h1
theorem de_lst {es : List Expr} {t : DTA} {pos : Pos} (h : DA X es t) : DE X (.List es pos) (dLst t) := by
  refine (pe_lst h).imp fun σ H Q ⟨ρ, G, q, r, h, k⟩ => ?_
  refine ⟨ρ, G, _, r, h, fun vs ds H1 G1 e1 r1 v1 ⟨z, h1⟩ => ⟨by rw [v1.length]; exact z, fun p hp => ?_⟩⟩
  obtain ⟨e2, r2, v2⟩ := r1.newLst hp v1
  exact k _ _ _ _ (e1.trans e2) r2 v2 (h1 p (r1.gok.fresh hp))
@[simp] def dFrz (t : DTE) : DTE := fun ρ G Q => t ρ G fun d G1 => match d with
  | .ref p => (match G1 p with
    | some (.lst ds) => Q (.lst ds) (dropG G1 p)
    | _ => Q (.ref p) G1)
  | d => Q d G1
theorem de_frz {e : Expr} {t : DTE} (h : DE X e t) : DE X e (dFrz t) := by
  refine PE.imp h fun σ H Q ⟨ρ, G, q, r, h, k⟩ => ?_
  refine ⟨ρ, G, _, r, h, fun v d H1 G1 e1 r1 v1 h1 => ?_⟩
  cases d with
  | ref p =>
    dsimp only at h1
    cases q : G1 p with
    | none => rw [q] at h1; exact k _ _ _ _ e1 r1 v1 h1
    | some o =>
      rw [q] at h1
      cases o with
      | lst ds =>
        dsimp only at h1
        obtain ⟨xs, hx, rx⟩ := r1.gok p _ q
        have e2 : Ext G1 H1 (dropG G1 p) H1 := Ext.drop
        refine k v (.lst ds) H1 (dropG G1 p) (e1.trans e2) (r1.ext e2 r1.gok.drop) ?_ h1
        unfold RepV at v1 ⊢
        exact ⟨p, xs, v1, ⟨dropG_same, hx⟩, rx.ext e2⟩
      | dct kvs => exact k _ _ _ _ e1 r1 v1 h1
      | raw o => exact k _ _ _ _ e1 r1 v1 h1
      | ins _ _ => exact k _ _ _ _ e1 r1 v1 h1
      | dtp _ => exact k _ _ _ _ e1 r1 v1 h1
      | tab _ => exact k _ _ _ _ e1 r1 v1 h1
      | slt _ _ => exact k _ _ _ _ e1 r1 v1 h1
  | _ => exact k _ _ _ _ e1 r1 v1 h1

abbrev DR2 := D → D → GH → DK → Prop
def upR (K : PySem.W.Frag) (r : DR2) : R2 := fun x y H Qv => ∃ (G : GH) (dx dy : D) (Q : DK), GOk K G H ∧ RepV K G H dx x ∧ RepV K G H dy y ∧ r dx dy G Q ∧ ∀ v d H' G', Ext G H G' H' → GOk K G' H' → RepV K G' H' d v → Q d G' → Qv v H'
abbrev DOp (X : Cx) (f : Value → Value → Sem Value) (r : DR2) : Prop := OpR X f (upR X.K r)
@[simp] def dOp (r : DR2) (ta tb : DTE) : DTE := fun ρ G Q => ta ρ G fun x G1 => tb ρ G1 fun y G2 => r x y G2 Q
theorem up_op {K : PySem.W.Frag} {r : DR2} {ta tb : DTE} {σ : St} {H : Hp} {Q : VK} (h : up K (dOp r ta tb) σ H Q) : tOp (upR K r) (up K ta) (up K tb) σ H Q := by
  obtain ⟨ρ, G, q, r0, h, k⟩ := h
  refine ⟨ρ, G, _, r0, h, fun x dx H1 G1 e1 r1 v1 h1 => ?_⟩
  refine ⟨ρ, G1, _, r1, h1, fun y dy H2 G2 e2 r2 v2 h2 => ?_⟩
  exact ⟨G2, dx, dy, q, r2.gok, v1.ext e2, v2, h2, fun v d H' G' e3 g3 v3 h3 => k v d H' G' ((e1.trans e2).trans e3) (r2.ext e3 g3) v3 h3⟩
theorem de_op {op : Operator} {r : DR2} {a b : Expr} {ta tb : DTE} {pos : Pos} (ho : DOp X (binaryOp op) r) (ha : DE X a ta) (hb : DE X b tb) : DE X (.BinOp a op b pos) (dOp r ta tb) :=
  (pe_op ho ha hb).imp fun _ _ _ h => up_op h
theorem de_cmp {op : CmpOp} {r : DR2} {a b : Expr} {ta tb : DTE} {pos : Pos} (ho : DOp X (compareOp op) r) (ha : DE X a ta) (hb : DE X b tb) (hm : behindInMarks op b = false) : DE X (.Compare a [op] [b] pos) (dOp r ta tb) :=
  (pe_cmpR ho ha hb hm).imp fun _ _ _ h => up_op h
@[simp] def dTst (t : DTE) : DTT := fun ρ G Q => t ρ G fun d G1 => match d with
  | .bl b => Q b G1
  | _ => False
theorem up_tst {K : PySem.W.Frag} {t : DTE} {σ : St} {H : Hp} {Q : Bool → Hp → Prop} (h : upT K (dTst t) σ H Q) : up K t σ H fun x H1 => ∃ k, x = .bl k ∧ Q k H1 := by
  obtain ⟨ρ, G, q, r0, h, k⟩ := h
  refine ⟨ρ, G, _, r0, h, fun x dx H1 G1 e1 r1 v1 h1 => ?_⟩
  cases dx with
  | bl b => unfold RepV at v1; exact ⟨b, v1, k b H1 G1 e1 r1 h1⟩
  | _ => exact h1.elim
theorem dt_cmp {op : CmpOp} {r : DR2} {a b : Expr} {ta tb : DTE} {pos : Pos} (ho : DOp X (compareOp op) r) (ha : DE X a ta) (hb : DE X b tb) (hm : behindInMarks op b = false) : DT X (.Compare a [op] [b] pos) (dTst (dOp r ta tb)) := by
  refine (pt_cmpR ho ha hb hm).imp fun σ H Q h => ?_
  exact up_op (up_tst h)
end
end Dl

namespace Dl
open PySem L2
section
variable {X : Cx}

@[simp] def dAnd (t u : DTT) : DTT := fun ρ G Q => t ρ G fun c G1 => if c = true then u ρ G1 Q else Q false G1
@[simp] def dOr (t u : DTT) : DTT := fun ρ G Q => t ρ G fun c G1 => if c = true then Q true G1 else u ρ G1 Q
@[simp] def dNot (t : DTT) : DTT := fun ρ G Q => t ρ G fun c G1 => Q (!c) G1
theorem up_and {K : PySem.W.Frag} {t u : DTT} {σ : St} {H : Hp} {Q : Bool → Hp → Prop} (h : upT K (dAnd t u) σ H Q) : tAnd (upT K t) (upT K u) σ H Q := by
  obtain ⟨ρ, G, q, r, h, k⟩ := h
  refine ⟨ρ, G, _, r, h, fun b H1 G1 e1 r1 h1 => ?_⟩
  cases b with
  | true => exact ⟨ρ, G1, q, r1, h1, fun b H' G' e r h => k b H' G' (e1.trans e) r h⟩
  | false => exact k false H1 G1 e1 r1 h1
theorem up_or {K : PySem.W.Frag} {t u : DTT} {σ : St} {H : Hp} {Q : Bool → Hp → Prop} (h : upT K (dOr t u) σ H Q) : tOr (upT K t) (upT K u) σ H Q := by
  obtain ⟨ρ, G, q, r, h, k⟩ := h
  refine ⟨ρ, G, _, r, h, fun b H1 G1 e1 r1 h1 => ?_⟩
  cases b with
  | false => exact ⟨ρ, G1, q, r1, h1, fun b H' G' e r h => k b H' G' (e1.trans e) r h⟩
  | true => exact k true H1 G1 e1 r1 h1
abbrev DW (X : Cx) (e : Expr) (t : DTT) : Prop := PW X e (upT X.K t)
theorem dw_and1 {a : Expr} {t : DTT} {pos : Pos} (h : DT X a t) : DW X (.BoolOp .And [a] pos) t := pw_and1 h
theorem dw_or1 {a : Expr} {t : DTT} {pos : Pos} (h : DT X a t) : DW X (.BoolOp .Or [a] pos) t := pw_or1 h
theorem dw_and {a b : Expr} {rest : List Expr} {t u : DTT} {pos : Pos} (h : DT X a t) (hb : DW X (.BoolOp .And (b :: rest) pos) u) : DW X (.BoolOp .And (a :: b :: rest) pos) (dAnd t u) := (pw_and h hb).imp fun _ _ _ h => up_and h
theorem dw_or {a b : Expr} {rest : List Expr} {t u : DTT} {pos : Pos} (h : DT X a t) (hb : DW X (.BoolOp .Or (b :: rest) pos) u) : DW X (.BoolOp .Or (a :: b :: rest) pos) (dOr t u) := (pw_or h hb).imp fun _ _ _ h => up_or h
theorem dt_w {e : Expr} {t : DTT} (h : DW X e t) : DT X e t := h.pt
theorem dt_not {a : Expr} {t : DTT} {pos : Pos} (h : DT X a t) : DT X (.UnaryOp .Not a pos) (dNot t) := by
  refine PT.imp (pt_not h) fun σ H Q ⟨ρ, G, q, r, h, k⟩ => ?_
  exact ⟨ρ, G, _, r, h, fun b H1 G1 e1 r1 h1 => k (!b) H1 G1 e1 r1 h1⟩
@[simp] def dAndV (ta tb : DTE) : DTE := fun ρ G Q => ta ρ G fun x G1 => match x with
  | .bl true => tb ρ G1 Q
  | .bl false => Q (.bl false) G1
  | _ => False
theorem de_one {op : BoolOp} {a : Expr} {t : DTE} {pos : Pos} (h : DE X a t) : DE X (.BoolOp op [a] pos) t := pe_one h
theorem de_and {a b : Expr} {rest : List Expr} {ta tb : DTE} {pos : Pos} (h : DE X a ta) (hb : DE X (.BoolOp .And (b :: rest) pos) tb) : DE X (.BoolOp .And (a :: b :: rest) pos) (dAndV ta tb) := by
  refine (pe_and h hb).imp fun σ H Q ⟨ρ, G, q, r, h, k⟩ => ?_
  refine ⟨ρ, G, _, r, h, fun v d H1 G1 e1 r1 v1 h1 => ?_⟩
  cases d with
  | bl c =>
    unfold RepV at v1
    refine ⟨c, v1, ?_⟩
    cases c with
    | true => exact ⟨ρ, G1, q, r1, h1, fun v d H' G' e r v' h => k v d H' G' (e1.trans e) r v' h⟩
    | false => exact k _ (.bl false) H1 G1 e1 r1 (by unfold RepV; rfl) h1
  | _ => exact h1.elim
@[simp] def dNotV (ta : DTE) : DTE := fun ρ G Q => ta ρ G fun x G1 => match x with
  | .bl c => Q (.bl (!c)) G1
  | _ => False
theorem de_not {a : Expr} {ta : DTE} {pos : Pos} (h : DE X a ta) : DE X (.UnaryOp .Not a pos) (dNotV ta) := by
  refine PE.imp (pe_not h) fun σ H Q ⟨ρ, G, q, r, h, k⟩ => ?_
  refine ⟨ρ, G, _, r, h, fun v d H1 G1 e1 r1 v1 h1 => ?_⟩
  cases d with
  | bl c =>
    unfold RepV at v1
    exact ⟨c, v1, k _ (.bl (!c)) H1 G1 e1 r1 (by unfold RepV; rfl) h1⟩
  | _ => exact h1.elim
@[simp] def dIf (c : DTT) (ta tb : DTE) : DTE := fun ρ G Q => c ρ G fun b G1 => if b = true then ta ρ G1 Q else tb ρ G1 Q
theorem de_if {c a b : Expr} {tc : DTT} {ta tb : DTE} {pos : Pos} (hc : DT X c tc) (ha : DE X a ta) (hb : DE X b tb) : DE X (.IfExp c a b pos) (dIf tc ta tb) := by
  refine (pe_ifExp hc ha hb).imp fun σ H Q ⟨ρ, G, q, r, h, k⟩ => ?_
  refine ⟨ρ, G, _, r, h, fun b H1 G1 e1 r1 h1 => ?_⟩
  cases b with
  | true => exact ⟨ρ, G1, q, r1, h1, fun v d H' G' e r v' h => k v d H' G' (e1.trans e) r v' h⟩
  | false => exact ⟨ρ, G1, q, r1, h1, fun v d H' G' e r v' h => k v d H' G' (e1.trans e) r v' h⟩

@[simp] def dNext : DTS := fun E ρ G => E.nx ρ G
@[simp] def dSeq (t u : DTS) : DTS := fun E ρ G => t { E with nx := u E } ρ G
theorem ds_nil : DSs X [] dNext := (pss_nil (X := X)).imp fun D σ H ⟨ρ, G, E, r, h, k1, _⟩ => k1 σ ρ H G (Ext.refl G H) r h
theorem ds_one {st : Stmt} {t : DTS} (h : DS X st t) : DSs X [st] t := pss_one h
theorem ds_cons {st : Stmt} {rest : List Stmt} {t u : DTS} (h : DS X st t) (h2 : DSs X rest u) : DSs X (st :: rest) (dSeq t u) := by
  refine (pss_cons h h2).imp fun D σ H ⟨ρ, G, E, r, h, k1, k2, k3, k4⟩ => ?_
  refine ⟨ρ, G, { E with nx := u E }, r, h, fun σ' ρ' H' G' e r' h' => ?_, k2, k3, k4⟩
  exact ⟨ρ', G', E, r', h', fun a b c d e' => k1 a b c d (e.trans e'), fun a b c d e' => k2 a b c d (e.trans e'), fun a b c d e' => k3 a b c d (e.trans e'), fun a b c d e' => k4 a b c d (e.trans e')⟩
@[simp] def dDrop (te : DTE) : DTS := fun E ρ G => te ρ G fun _ G1 => E.nx ρ G1
theorem ds_expr {e : Expr} {te : DTE} {pos : Pos} (he : DE X e te) (hs : swapsWith e none pos.line X.env = pure false := by rfl) : DS X (.Expr e pos) (dDrop te) := by
  refine (ps_expr he hs).imp fun D σ H ⟨ρ, G, E, r, h, k1, _⟩ => ?_
  exact ⟨ρ, G, _, r, h, fun v d H' G' e r' v' h' => k1 σ ρ H' G' e r' h'⟩
@[simp] def dRet (te : DTE) : DTS := fun E ρ G => te ρ G E.rt
theorem ds_ret {e : Expr} {te : DTE} {pos : Pos} (he : DE X e te) : DS X (.Return (some e) pos) (dRet te) := by
  refine (ps_ret he).imp fun D σ H ⟨ρ, G, E, r, h, _, k2, _⟩ => ?_
  exact ⟨ρ, G, _, r, h, fun v d H' G' e r' v' h' => k2 v d H' G' e r'.gok v' h'⟩
@[simp] def dIfS (c : DTT) (t u : DTS) : DTS := fun E ρ G => c ρ G fun b G1 => if b = true then t E ρ G1 else u E ρ G1
theorem upS_ext {K : PySem.W.Frag} {t : DTS} {Dv : Ends} {σ : St} {H H1 : Hp} {ρ : DSt} {G G1 : GH} {E : DEnds} (e : Ext G H G1 H1) (r1 : DRel K σ H1 ρ G1) (h : t E ρ G1)
    (k1 : ∀ σ' ρ' H' G', Ext G H G' H' → DRel K σ' H' ρ' G' → E.nx ρ' G' → Dv.nx σ' H')
    (k2 : ∀ v d H' G', Ext G H G' H' → GOk K G' H' → RepV K G' H' d v → E.rt d G' → Dv.rt v H')
    (k3 : ∀ σ' ρ' H' G', Ext G H G' H' → DRel K σ' H' ρ' G' → E.bk ρ' G' → Dv.bk σ' H')
    (k4 : ∀ σ' ρ' H' G', Ext G H G' H' → DRel K σ' H' ρ' G' → E.ct ρ' G' → Dv.ct σ' H') : upS K t Dv σ H1 :=
  ⟨ρ, G1, E, r1, h, fun a b c d e' => k1 a b c d (e.trans e'), fun a b c d e' => k2 a b c d (e.trans e'), fun a b c d e' => k3 a b c d (e.trans e'), fun a b c d e' => k4 a b c d (e.trans e')⟩
theorem ds_if {c : Expr} {a b : List Stmt} {tc : DTT} {t u : DTS} {pos : Pos} (hc : DT X c tc) (ha : DSs X a t) (hb : DSs X b u) : DS X (.If c a b pos) (dIfS tc t u) := by
  refine (ps_if hc ha hb).imp fun D σ H ⟨ρ, G, E, r, h, k1, k2, k3, k4⟩ => ?_
  refine ⟨ρ, G, _, r, h, fun b H1 G1 e1 r1 h1 => ?_⟩
  cases b with
  | true => exact upS_ext e1 r1 h1 k1 k2 k3 k4
  | false => exact upS_ext e1 r1 h1 k1 k2 k3 k4
@[simp] def dNever : DTS := fun _ _ _ => False
theorem ds_never {st : Stmt} : DS X st dNever := (ps_never (X := X)).imp fun D σ H ⟨_, _, _, _, h, _⟩ => h
@[simp] def gNm (i : Nat) : DTG := fun d ρ G Q => Q (ρ.set i (some d)) G
theorem dg_name {i : Nat} {x : Str} {pos : Pos} (hN : X.N.Nodup) (hi : X.N[i]? = some x) (hx : Loc X.env.scope x) (hf : X.fn x = true ∨ X.env.scope.names.lookup x = some .local := by first | exact .inl rfl | exact .inr rfl | assumption) : DG X (.Name x pos) (gNm i) :=
  (pg_name hN hi hx hf).imp fun v σ H Q ⟨ρ, G, d, q, r, rv, h, k⟩ => k _ _ H G (Ext.refl G H) (r.set i rv) h
@[simp] def gsNil : DTGs := fun ds ρ G Q => match ds with
  | [] => Q ρ G
  | _ => False
@[simp] def gsCons (t : DTG) (u : DTGs) : DTGs := fun ds ρ G Q => match ds with
  | d :: r => t d ρ G fun ρ' G' => u r ρ' G' Q
  | [] => False
theorem dgs_nil : DGs X [] gsNil := (pgs_nil (X := X)).imp fun v σ H Q ⟨ρ, G, ds, q, r, rv, h, k⟩ => by
  cases ds with
  | nil => unfold RepL at rv; exact ⟨rv, k σ ρ H G (Ext.refl G H) r h⟩
  | cons d ds => exact h.elim
theorem dgs_cons {e : Expr} {es : List Expr} {t : DTG} {u : DTGs} (h1 : DG X e t) (h2 : DGs X es u)
    (hs : (assignEach (e :: es) X.env).map (·.2) = assign e X.env :: (assignEach es X.env).map (·.2) := by rfl) : DGs X (e :: es) (gsCons t u) :=
  (pgs_cons h1 h2 hs).imp fun v σ H Q ⟨ρ, G, ds, q, r, rv, h, k⟩ => by
    cases ds with
    | nil => exact h.elim
    | cons d ds =>
      unfold RepL at rv
      obtain ⟨x, xs, rfl, hx, hxs⟩ := rv
      refine ⟨x, xs, rfl, ρ, G, d, _, r, hx, h, fun σ' ρ' H' G' e r' h' => ?_⟩
      exact ⟨ρ', G', ds, q, r', hxs.ext e, h', fun a b c d e' => k a b c d (e.trans e')⟩
@[simp] def gTp (n : Nat) (t : DTGs) : DTG := fun d ρ G Q => match d with
  | .tup xs => xs.length = n ∧ t xs ρ G Q
  | _ => False
theorem dg_tup {es : List Expr} {k : Nat} {t : DTGs} {n : Nat} {pos : Pos} (hc : X.calm = true) (h : DGs X es t)
    (hn : (assignEach es X.env).length = n := by rfl) (hst : (assignEach es X.env).findIdx? (·.1) = none := by rfl) : DG X (.Tuple es k pos) (gTp n t) :=
  (pg_tup hc h hn hst).imp fun v σ H Q ⟨ρ, G, d, q, r, rv, h, k⟩ => by
    cases d with
    | tup ds =>
      unfold RepV at rv
      obtain ⟨a, xs, rfl, ta, rl⟩ := rv
      exact ⟨a, xs, rfl, ta.sq, by rw [rl.length]; exact h.1, ρ, G, ds, q, r, rl, h.2, k⟩
    | _ => exact h.elim
abbrev DSet := D → D → D → GH → (GH → Prop) → Prop
def upSet (K : PySem.W.Frag) (t : DSet) : TSet := fun o i v H Qv => ∃ (G : GH) (dO di d : D) (Q : GH → Prop), GOk K G H ∧ RepV K G H dO o ∧ RepV K G H di i ∧ RepV K G H d v ∧ t dO di d G Q ∧ ∀ H' G', Ext G H G' H' → GOk K G' H' → Q G' → Qv H'
@[simp] def gSb (to ti : DTE) (t : DSet) : DTG := fun d ρ G Q => to ρ G fun o G1 => ti ρ G1 fun i G2 => t o i d G2 fun G3 => Q ρ G3
theorem dg_sub {o i : Expr} {to ti : DTE} {t : DSet} {pos : Pos} (ho : DE X o to) (hi : DE X i ti) (hs : PSet X (upSet X.K t))
    (ha : ∀ v, assign (.Subscript o i pos) X.env v = (do
      let ov ← holding [v] (eval o X.env)
      let iv ← holding [v, ov] (eval i X.env)
      standAt pos
      holding [v, ov, iv] (setItem ov iv v)
      release [v, ov, iv] []) := by intro _; rfl) : DG X (.Subscript o i pos) (gSb to ti t) :=
  (pg_sub ho hi hs ha).imp fun v σ H Q ⟨ρ, G, d, q, r, rv, h, k⟩ => by
    refine ⟨ρ, G, _, r, h, fun ov od H1 G1 e1 r1 v1 h1 => ?_⟩
    refine ⟨ρ, G1, _, r1, h1, fun iv idd H2 G2 e2 r2 v2 h2 => ?_⟩
    refine ⟨G2, od, idd, d, _, r2.gok, v1.ext e2, v2, rv.ext (e1.trans e2), h2, fun H' G' e3 g3 h3 => ?_⟩
    exact k σ ρ H' G' ((e1.trans e2).trans e3) (r2.ext e3 g3) h3
@[simp] def dAsg (te : DTE) (g : DTG) : DTS := fun E ρ G => te ρ G fun x G1 => g x ρ G1 E.nx
theorem up_asg {K : PySem.W.Frag} {te : DTE} {g : DTG} {D : Ends} {σ : St} {H : Hp} (h : upS K (dAsg te g) D σ H) : tAsg (up K te) (upG K g) D σ H := by
  obtain ⟨ρ, G, E, r, h, k1, k2, k3, k4⟩ := h
  refine ⟨ρ, G, _, r, h, fun v d H1 G1 e1 r1 v1 h1 => ?_⟩
  exact ⟨ρ, G1, d, _, r1, v1, h1, fun a b c d e' => k1 a b c d (e1.trans e')⟩
theorem ds_asg {tg e : Expr} {te : DTE} {g : DTG} {pos : Pos} (he : DE X e te) (hg : DG X tg g) (hs : swapsWithSole [tg] e pos.line X.env = pure false := by rfl) (hw : swappedStores [tg] e X.env = pure none := by rfl)
    (h1 : (assignEach [tg] X.env).map (·.2) = [assign tg X.env] := by rfl) : DS X (.Assign [tg] e pos) (dAsg te g) := (ps_asg he hg hs hw h1).imp fun _ _ _ h => up_asg h
theorem ds_set {i : Nat} {x : Str} {e : Expr} {te : DTE} {pos pos' : Pos} (hN : X.N.Nodup) (hi : X.N[i]? = some x) (hx : Loc X.env.scope x) (he : DE X e te) (hs : swapsWith e (some (.Name x pos')) pos.line X.env = pure false := by rfl) (hf : X.fn x = true ∨ X.env.scope.names.lookup x = some .local := by first | exact .inl rfl | exact .inr rfl | assumption) :
    DS X (.Assign [.Name x pos'] e pos) (dAsg te (gNm i)) := by
  refine (ps_set hN hi hx he hs hf).imp fun D σ H ⟨ρ, G, E, r, h, k1, k2, k3, k4⟩ => ?_
  refine ⟨ρ, G, _, r, h, fun v d H1 G1 e1 r1 v1 h1 => ?_⟩
  exact k1 _ _ H1 G1 e1 (r1.set i v1) h1
@[simp] def dPar (i j : Nat) (ta : DTA) : DTS := fun E ρ G => ta ρ G fun ds G1 => match ds with
  | [v, w] => E.nx ((ρ.set i (some v)).set j (some w)) G1
  | _ => False
theorem ds_par {i j : Nat} {x y : Str} {a b : Expr} {ta : DTA} {px py pt pos : Pos} {kt k2 pt2} (hc : X.calm = true) (hN : X.N.Nodup) (hi : X.N[i]? = some x) (hj : X.N[j]? = some y) (hij : i ≠ j)
    (hx : X.env.scope.names.lookup x = some .local) (hy : X.env.scope.names.lookup y = some .local) (ha : DA X [a, b] ta)
    (hw : swappedStores [.Tuple [.Name x px, .Name y py] kt pt] (.Tuple [a, b] k2 pt2) X.env = pure (some [x, y]))
    (hs : swapsWithSole [.Tuple [.Name x px, .Name y py] kt pt] (.Tuple [a, b] k2 pt2) pos.line X.env = pure false := by rfl) :
    DS X (.Assign [.Tuple [.Name x px, .Name y py] kt pt] (.Tuple [a, b] k2 pt2) pos) (dPar i j ta) := by
  refine (ps_par hc hN hi hj hij hx hy ha hw hs).imp fun D σ H ⟨ρ, G, E, r, h, k1, k2, k3, k4⟩ => ?_
  refine ⟨ρ, G, _, r, h, fun vs ds H1 G1 e1 r1 v1 h1 => ?_⟩
  match ds, h1 with
  | [v, w], h1 =>
    unfold RepL at v1
    obtain ⟨x1, t1, rfl, y1, v1⟩ := v1
    unfold RepL at v1
    obtain ⟨x2, t2, rfl, y2, v1⟩ := v1
    unfold RepL at v1
    subst v1
    exact ⟨x1, x2, rfl, k1 _ _ H1 G1 e1 ((r1.set i y1).set j y2) h1⟩
  | [], h1 => exact h1.elim
  | [_], h1 => exact h1.elim
  | _ :: _ :: _ :: _, h1 => exact h1.elim

def dWhileGo (c : DTT) (tb : DTS) : Nat → DTS
  | 0, _, _, _ => False
  | n + 1, E, ρ, G => c ρ G fun b G1 => if b = true then tb { E with nx := dWhileGo c tb n E, ct := dWhileGo c tb n E, bk := E.nx } ρ G1 else E.nx ρ G1
def dWhile (c : DTT) (tb : DTS) : DTS := fun E ρ G => ∃ n, dWhileGo c tb n E ρ G
theorem ds_while {c : Expr} {body : List Stmt} {tc : DTT} {tb : DTS} {pos : Pos} (hp : PassesOwn (model X.prog X.w) X.A X.env X.xe) (hc : DT X c tc) (hb : DSs X body tb) : DS X (.While c body [] pos) (dWhile tc tb) := by
  refine (ps_while hp hc hb).imp fun D σ H ⟨ρ, G, E, r, ⟨n, h⟩, k1, k2, k3, k4⟩ => ?_
  refine ⟨fun m σ1 H1 => ∃ ρ1 G1, Ext G H G1 H1 ∧ DRel X.K σ1 H1 ρ1 G1 ∧ dWhileGo tc tb m E ρ1 G1, ⟨n, ρ, G, Ext.refl G H, r, h⟩, ?_⟩
  rintro m σ1 H1 ⟨ρ1, G1, e1, r1, h1⟩
  cases m with
  | zero => exact h1.elim
  | succ m =>
    unfold dWhileGo at h1
    refine ⟨ρ1, G1, _, r1, h1, fun b H2 G2 e2 r2 h2 => ?_⟩
    cases b with
    | false => exact k1 σ1 ρ1 H2 G2 (e1.trans e2) r2 h2
    | true =>
      refine ⟨fun σ3 H3 => ∃ ρ3 G3, Ext G H G3 H3 ∧ DRel X.K σ3 H3 ρ3 G3 ∧ dWhileGo tc tb m E ρ3 G3, fun σ3 H3 q => ⟨m, Nat.lt_succ_self m, q⟩, ?_⟩
      refine ⟨ρ1, G2, _, r2, h2, ?_, ?_, ?_, ?_⟩
      · exact fun σ' ρ' H' G' e' r' h' => ⟨ρ', G', (e1.trans e2).trans e', r', h'⟩
      · exact fun v d H' G' e' => k2 v d H' G' ((e1.trans e2).trans e')
      · exact fun σ' ρ' H' G' e' r' h' => k1 σ' ρ' H' G' ((e1.trans e2).trans e') r' h'
      · exact fun σ' ρ' H' G' e' r' h' => ⟨ρ', G', (e1.trans e2).trans e', r', h'⟩

def DIt (K : PySem.W.Frag) (J : It) (items : List D) (ok : GH → Prop) (G0 : GH) (H0 : Hp) : Prop :=
  ∀ G H, Ext G0 H0 G H → GOk K G H → ok G → ∀ i, (∀ d, items[i]? = some d → J.go i H ∧ ∀ x H1, J.yld i H x H1 → Ext G H G H1 ∧ GOk K G H1 ∧ RepV K G H1 d x) ∧ (i = items.length → J.stop i H)
abbrev DTI := DSt → GH → (List D → (GH → Prop) → GH → Prop) → Prop
def upI (K : PySem.W.Frag) (t : DTI) : TI := fun σ H R => ∃ ρ G Q, DRel K σ H ρ G ∧ t ρ G Q ∧ ∀ J items ok H' G', Ext G H G' H' → DRel K σ H' ρ G' → DIt K J items ok G' H' → Q items ok G' → R J H'
abbrev DI (X : Cx) (tg iter : Expr) (t : DTI) : Prop := PI X tg iter (upI X.K t)
theorem _root_.L2.PI.imp {tg iter : Expr} {t t' : TI} (h : PI X tg iter t) (i : ∀ σ H R, t' σ H R → t σ H R) : PI X tg iter t' := ⟨fun pins s σ H R I q => h.run pins s σ H R I (i σ H R q)⟩
def okAll : GH → Prop := fun _ => True
def rngD (lo : Int) (n : Nat) : List D := (List.range n).map fun i => D.int (lo + (i : Nat))
theorem dit_range {K : PySem.W.Frag} {lo : Int} {n : Nat} {G0 : GH} {H0 : Hp} : DIt K (Itr lo n) (rngD lo n) okAll G0 H0 := fun G H e g _ i => by
  refine ⟨fun d hd => ?_, fun hi => ?_⟩
  · unfold rngD at hd
    rw [List.getElem?_map] at hd
    by_cases hi : i < n
    · rw [List.getElem?_range hi] at hd
      simp at hd
      subst hd
      refine ⟨hi, fun x H1 hx => ?_⟩
      obtain ⟨rfl, rfl⟩ := hx
      exact ⟨Ext.refl _ _, g, by unfold RepV; rfl⟩
    · rw [List.getElem?_eq_none (by simpa using hi)] at hd
      simp at hd
  · unfold rngD at hi
    show n ≤ i
    simp at hi
    omega
@[simp] def iRg1 (t : DTA) : DTI := fun ρ G Q => t ρ G fun ds G1 => match ds with
  | [.int j] => -(2 ^ 62) ≤ j ∧ j < 2 ^ 62 ∧ Q (rngD 0 j.toNat) okAll G1
  | _ => False
theorem di_range1 {tg a : Expr} {t : DTA} {p pos : Pos} (hg : Gl X "range") (hm : X.mg "range" = none) (ha : DA X [a] t) (hs : starEach [a] X.env = [(false, eval a X.env)] := by rfl) : DI X tg (.Call (.Name "range" p) [a] [] pos) (iRg1 t) := by
  refine (pi_range1 hg hm ha hs).imp fun σ H R ⟨ρ, G, q, r, h, k⟩ => ?_
  refine ⟨ρ, G, _, r, h, fun vs ds H1 G1 e1 r1 v1 h1 => ?_⟩
  match ds, h1 with
  | [.int j], h1 =>
    unfold RepL at v1
    obtain ⟨x1, t1, rfl, y1, v1⟩ := v1
    unfold RepL at v1
    subst v1
    unfold RepV at y1
    subst y1
    exact ⟨j, rfl, h1.1, h1.2.1, k _ _ _ H1 G1 e1 r1 dit_range h1.2.2⟩
def dForGo (ok : GH → Prop) (g : DTG) (tb : DTS) : List D → DTS
  | [], E, ρ, G => ok G ∧ E.nx ρ G
  | x :: xs, E, ρ, G => ok G ∧ g x ρ G fun ρ2 G2 => tb { E with nx := dForGo ok g tb xs E, ct := dForGo ok g tb xs E, bk := E.nx } ρ2 G2
def dFor (wi : DTI) (g : DTG) (tb : DTS) : DTS := fun E ρ G => wi ρ G fun items ok G1 => dForGo ok g tb items E ρ G1
theorem ds_for {tg iter : Expr} {body : List Stmt} {wi : DTI} {g : DTG} {tb : DTS} {pos : Pos} (hp : PassesOwn (model X.prog X.w) X.A X.env X.xe) (hc : X.calm = true) (hi : DI X tg iter wi) (hg : DG X tg g) (hb : DSs X body tb)
    (hs : ∀ x, foldedSetIterable iter X.env x = pure x := by intro _; rfl) : DS X (.For tg iter body [] pos) (dFor wi g tb) := by
  refine (ps_for hp hc hi hg hb hs).imp fun D σ H ⟨ρ, G, E, r, h, k1, k2, k3, k4⟩ => ?_
  refine ⟨ρ, G, _, r, h, fun J items ok H1 G1 e1 r1 it h1 => ?_⟩
  refine ⟨fun i m σ2 H2 => m = items.length - i ∧ i ≤ items.length ∧ ∃ ρ2 G2, Ext G1 H1 G2 H2 ∧ DRel X.K σ2 H2 ρ2 G2 ∧ dForGo ok g tb (items.drop i) E ρ2 G2, ⟨items.length, rfl, Nat.zero_le _, ρ, G1, Ext.refl _ _, r1, h1⟩, ?_⟩
  rintro i m σ2 H2 ⟨rfl, hi, ρ2, G2, e2, r2, h2⟩
  by_cases hlt : i < items.length
  · rw [List.drop_eq_getElem_cons hlt] at h2
    unfold dForGo at h2
    obtain ⟨ho, h2⟩ := h2
    obtain ⟨a, b⟩ := it G2 H2 e2 r2.gok ho i
    obtain ⟨go, yl⟩ := a items[i] (List.getElem?_eq_getElem hlt)
    refine .inr ⟨go, fun σ3 H3 => ∃ ρ3 G3, Ext G1 H1 G3 H3 ∧ DRel X.K σ3 H3 ρ3 G3 ∧ dForGo ok g tb (items.drop (i + 1)) E ρ3 G3, fun σ3 H3 ⟨ρ3, G3, q⟩ => ⟨items.length - (i + 1), by omega, rfl, hlt, ρ3, G3, q⟩, fun x H3 hy => ?_⟩
    obtain ⟨e3, g3, rx⟩ := yl x H3 hy
    refine ⟨ρ2, G2, items[i], _, r2.ext e3 g3, rx, h2, fun σ4 ρ4 H4 G4 e4 r4 h4 => ?_⟩
    have e5 := (e2.trans e3).trans e4
    refine ⟨ρ4, G4, _, r4, h4, ?_, ?_, ?_, ?_⟩
    · exact fun σ' ρ' H' G' e' r' h' => ⟨ρ', G', e5.trans e', r', h'⟩
    · exact fun v d H' G' e' => k2 v d H' G' ((e1.trans e5).trans e')
    · exact fun σ' ρ' H' G' e' r' h' => k1 σ' ρ' H' G' ((e1.trans e5).trans e') r' h'
    · exact fun σ' ρ' H' G' e' r' h' => ⟨ρ', G', e5.trans e', r', h'⟩
  · have e : i = items.length := by omega
    subst e
    rw [List.drop_length] at h2
    unfold dForGo at h2
    exact .inl ⟨(it G2 H2 e2 r2.gok h2.1 _).2 rfl, k1 σ2 ρ2 H2 G2 (e1.trans e2) r2 h2.2⟩

def wipeD (ρ : DSt) : List Nat → DSt
  | [] => ρ
  | v :: vs => (wipeD ρ vs).set v none
theorem DRel.wipe {K : PySem.W.Frag} {σ : St} {H : Hp} {ρ : DSt} {G : GH} (r : DRel K σ H ρ G) : ∀ vs : List Nat, DRel K (wipe σ vs) H (wipeD ρ vs) G
  | [] => r
  | v :: vs => by
    have ih := DRel.wipe r vs
    unfold L2.wipe wipeD
    refine ⟨by simp [ih.len], fun i d h => ?_, ih.gok⟩
    by_cases q : v = i
    · subst q
      by_cases hl : v < (wipeD ρ vs).length
      · rw [List.getElem?_set_self hl] at h; cases h
      · rw [List.getElem?_eq_none (by simpa using hl)] at h; cases h
    · rw [List.getElem?_set_ne q] at h
      obtain ⟨w, h1, h2⟩ := ih.at_ i d h
      exact ⟨w, by rw [List.getElem?_set_ne q]; exact h1, h2⟩
abbrev DTs (X : Cx) (ifs : List Expr) (t : DTT) : Prop := PTs X ifs (upT X.K t)
@[simp] def dYes : DTT := fun _ G Q => Q true G
theorem dts_nil : DTs X [] dYes := ⟨fun pins s σ H Q I ⟨ρ, G, q, r, h, k⟩ => (pts_nil (X := X)).run pins s σ H Q I (k true H G (Ext.refl G H) r h)⟩
theorem dts_one {c : Expr} {t : DTT} (h : DT X c t) : DTs X [c] t := pts_one h
end
end Dl

namespace Dl
open PySem L2

inductive CT where
  | one (i : Nat)
  | tup (is : List Nat)
def CT.slots : CT → List Nat
  | .one i => [i]
  | .tup is => is
def setAll : DSt → List Nat → List D → Option DSt
  | ρ, [], [] => some ρ
  | ρ, i :: is, d :: ds => setAll (ρ.set i (some d)) is ds
  | _, _, _ => none
def bindC : CT → D → DSt → Option DSt
  | .one i, d, ρ => some (ρ.set i (some d))
  | .tup is, .tup ds, ρ => setAll ρ is ds
  | .tup _, _, _ => none
def gNames : List Nat → TGs
  | [] => gNil
  | i :: is => gCons (gName i) (gNames is)
def CT.gV (K : PySem.W.Frag) : CT → TG
  | .one i => gName i
  | .tup is => gTup K is.length (gNames is)
theorem wipe_set {σ : St} {i : Nat} {x : Option V} : ∀ {vs : List Nat}, i ∈ vs → wipe (σ.set i x) vs = wipe σ vs
  | v :: vs, h => by
    unfold wipe
    by_cases q : i ∈ vs
    · rw [wipe_set q]
    · have e : v = i := by
        rcases List.mem_cons.mp h with e | e
        · exact e.symm
        · exact absurd e q
      subst e
      have go : ∀ ws : List Nat, v ∉ ws → wipe (σ.set v x) ws = (wipe σ ws).set v x := by
        intro ws
        induction ws with
        | nil => intro _; rfl
        | cons w ws ih =>
          intro hw
          simp only [List.mem_cons, not_or] at hw
          unfold wipe
          rw [ih hw.2, List.set_comm _ _ hw.1]
      rw [go vs q, List.set_set]
theorem wipe_wipe (σ : St) (vs : List Nat) : wipe (wipe σ vs) vs = wipe σ vs := by
  have go : ∀ ws : List Nat, (∀ i ∈ ws, i ∈ vs) → wipe (wipe σ ws) vs = wipe σ vs := by
    intro ws
    induction ws with
    | nil => intro _; rfl
    | cons w ws ih =>
      intro h
      show wipe ((wipe σ ws).set w none) vs = wipe σ vs
      rw [wipe_set (h w List.mem_cons_self)]
      exact ih fun i hi => h i (List.mem_cons_of_mem _ hi)
  exact go vs fun _ h => h
theorem setAll_ok {K : PySem.W.Frag} {H : Hp} {G : GH} {vs : List Nat} : ∀ {is : List Nat} {ds : List D} {xs : List V} {ρ ρ' : DSt} {σ : St} {Q : St → Hp → Prop}, (∀ i ∈ is, i ∈ vs) → DRel K σ H ρ G → RepL K G H ds xs → setAll ρ is ds = some ρ' →
    (∀ σ', DRel K σ' H ρ' G → wipe σ' vs = wipe σ vs → Q σ' H) → xs.length = is.length ∧ gNames is xs σ H Q
  | [], [], _, ρ, ρ', σ, Q, hi, r, rl, e, k => by
    unfold RepL at rl
    subst rl
    simp [setAll] at e
    subst e
    exact ⟨rfl, rfl, k σ r rfl⟩
  | i :: is, d :: ds, _, ρ, ρ', σ, Q, hi, r, rl, e, k => by
    unfold RepL at rl
    obtain ⟨x, xs, rfl, hx, hxs⟩ := rl
    have e' : setAll (ρ.set i (some d)) is ds = some ρ' := e
    obtain ⟨l, g⟩ := setAll_ok (vs := vs) (Q := Q) (fun j hj => hi j (List.mem_cons_of_mem _ hj)) (r.set i hx) hxs e' fun σ' r' w => k σ' r' (by rw [w, wipe_set (hi i List.mem_cons_self)])
    exact ⟨by simp [l], x, xs, rfl, g⟩
  | [], _ :: _, _, _, _, _, _, _, _, _, e, _ => by simp [setAll] at e
  | _ :: _, [], _, _, _, _, _, _, _, _, e, _ => by simp [setAll] at e
theorem bindC_ok {K : PySem.W.Frag} {H : Hp} {G : GH} {vs : List Nat} {ct : CT} {d : D} {v : V} {ρ ρ' : DSt} {σ : St} {Q : St → Hp → Prop} (hi : ∀ i ∈ ct.slots, i ∈ vs) (r : DRel K σ H ρ G) (rv : RepV K G H d v) (e : bindC ct d ρ = some ρ')
    (k : ∀ σ', DRel K σ' H ρ' G → wipe σ' vs = wipe σ vs → Q σ' H) : ct.gV K v σ H Q := by
  cases ct with
  | one i =>
    simp only [bindC, Option.some.injEq] at e
    subst e
    exact k _ (r.set i rv) (wipe_set (hi i (by simp [CT.slots])))
  | tup is =>
    cases d with
    | tup ds =>
      unfold RepV at rv
      obtain ⟨a, xs, rfl, ta, rl⟩ := rv
      obtain ⟨l, g⟩ := setAll_ok (Q := Q) hi r rl e k
      exact ⟨a, xs, rfl, ta.sq, l, g⟩
    | _ => simp [bindC] at e
def dLcGo (ok : GH → Prop) (ct : CT) (tt : DTT) (te : DTE) (ρ : DSt) (p : Addr) : List D → GH → DK → Prop
  | [], G, Q => ok G ∧ Q (.ref p) G
  | x :: xs, G, Q => ok G ∧ match bindC ct x ρ with
    | none => False
    | some ρ2 => tt ρ2 G fun b G3 => if b = true then te ρ2 G3 fun y G4 => (match G4 p with
        | some (.lst acc) => acc.length < sizeLine ∧ dLcGo ok ct tt te ρ p xs (updG G4 p (.lst (acc ++ [y]))) Q
        | _ => False) else dLcGo ok ct tt te ρ p xs G3 Q
def dLc (wi : DTI) (ct : CT) (tt : DTT) (te : DTE) (vs : List Nat) : DTE := fun ρ G Q => wi ρ G fun items ok G1 => ∀ p, G1 p = none → dLcGo ok ct tt te (wipeD ρ vs) p items (updG G1 p (.lst [])) Q
theorem up_lc {K : PySem.W.Frag} {wi : DTI} {ct : CT} {tt : DTT} {te : DTE} {vs : List Nat} (hi : ∀ i ∈ ct.slots, i ∈ vs) {σ : St} {H : Hp} {Q : VK} (h : up K (dLc wi ct tt te vs) σ H Q) :
    tLc (upI K wi) (ct.gV K) (upT K tt) (up K te) vs σ H Q := by
  obtain ⟨ρ, G, q, r, h, k⟩ := h
  refine ⟨ρ, G, _, r, h, fun J items ok H1 G1 e1 r1 it h1 => fun p hp => ?_⟩
  obtain ⟨e2, r2, _⟩ := r1.newLst hp (repL_nil (K := K) (G := G1) (H := H1))
  have h2 := h1 p (r1.gok.fresh hp)
  refine ⟨fun i m H2 => m = items.length - i ∧ i ≤ items.length ∧ ∃ G2, Ext (updG G1 p (.lst [])) (upd H1 p (.lst [])) G2 H2 ∧ GOk K G2 H2 ∧ dLcGo ok ct tt te (wipeD ρ vs) p (items.drop i) G2 q, ⟨items.length, rfl, Nat.zero_le _, _, Ext.refl _ _, r2.gok, h2⟩, ?_⟩
  rintro i m H2 ⟨rfl, hi2, G2, e3, g3, h3⟩
  have r3 : DRel K σ H2 ρ G2 := r2.ext e3 g3
  have e13 : Ext G1 H1 G2 H2 := e2.trans e3
  by_cases hlt : i < items.length
  · rw [List.drop_eq_getElem_cons hlt] at h3
    unfold dLcGo at h3
    obtain ⟨ho, h3⟩ := h3
    obtain ⟨a, b⟩ := it G2 H2 e13 g3 ho i
    obtain ⟨go, yl⟩ := a items[i] (List.getElem?_eq_getElem hlt)
    refine .inr ⟨go, fun H3 => ∃ G3, Ext (updG G1 p (.lst [])) (upd H1 p (.lst [])) G3 H3 ∧ GOk K G3 H3 ∧ dLcGo ok ct tt te (wipeD ρ vs) p (items.drop (i + 1)) G3 q, fun H3 ⟨G3, q3⟩ => ⟨items.length - (i + 1), by omega, rfl, hlt, G3, q3⟩, fun x H3 hy => ?_⟩
    obtain ⟨e4, g4, rx⟩ := yl x H3 hy
    have r4 : DRel K (wipe σ vs) H3 (wipeD ρ vs) G2 := (r3.ext e4 g4).wipe vs
    cases eb : bindC ct items[i] (wipeD ρ vs) with
    | none => rw [eb] at h3; exact h3.elim
    | some ρ2 =>
      rw [eb] at h3
      refine bindC_ok hi r4 rx eb fun σ5 r5 w5 => ⟨by rw [w5, wipe_wipe], ρ2, G2, _, r5, h3, fun b H6 G6 e6 r6 h6 => ?_⟩
      have e36 := (e3.trans e4).trans e6
      cases b with
      | false => exact ⟨G6, e36, r6.gok, h6⟩
      | true =>
        refine ⟨ρ2, G6, _, r6, h6, fun y dy H7 G7 e7 r7 v7 h7 => ?_⟩
        cases hg : G7 p with
        | none => rw [hg] at h7; exact h7.elim
        | some o =>
          rw [hg] at h7
          cases o with
          | lst acc =>
            obtain ⟨xs, hx, rx⟩ := r7.gok p _ hg
            have e8 : Ext G7 H7 (updG G7 p (.lst (acc ++ [dy]))) (upd H7 p (.lst (xs ++ [y]))) := Ext.write hg
            refine ⟨xs, hx, by rw [rx.length]; exact h7.1, _, (e36.trans e7).trans e8, r7.gok.put e8 ⟨_, upd_same, (rx.append (repL_one v7)).ext e8⟩, h7.2⟩
          | dct _ => exact h7.elim
          | raw _ => exact h7.elim
          | ins _ _ => exact h7.elim
          | dtp _ => exact h7.elim
          | tab _ => exact h7.elim
          | slt _ _ => exact h7.elim
  · have e : i = items.length := by omega
    subst e
    rw [List.drop_length] at h3
    unfold dLcGo at h3
    refine .inl ⟨(it G2 H2 e13 g3 h3.1 _).2 rfl, k _ (.ref p) H2 G2 (e1.trans e13) (r3) (by unfold RepV; rfl) h3.2⟩
section
variable {X : Cx}
theorem de_lc {elt tg iter : Expr} {ifs : List Expr} {scope : Scope} {own : List (Str × Nat)} {pos : Pos} {wi : DTI} {ct : CT} {tt : DTT} {te : DTE} (hc : X.calm = true) (hN : X.N.Nodup) (hi : DI X tg iter wi) (ok : BlkOk X.N X.env.scope scope own)
    (hv : ∀ i ∈ ct.slots, i ∈ own.map (·.2))
    (hg : ∀ (s : Shared) (H : Hp) (C : Addr) (cl : List (Str × Addr)) (fp : List Addr), PG (X.blk s H scope (compEnvC scope cl C X.env) fp) tg (ct.gV X.K)) (ht : ∀ (s : Shared) (H : Hp) (C : Addr) (cl : List (Str × Addr)) (fp : List Addr), DTs (X.blk s H scope (compEnvC scope cl C X.env) fp) ifs tt)
    (he : ∀ (s : Shared) (H : Hp) (C : Addr) (cl : List (Str × Addr)) (fp : List Addr), DE (X.blk s H scope (compEnvC scope cl C X.env) fp) elt te) (hs : ∀ x, foldedSetIterable iter X.env x = pure x := by intro _; rfl) :
    DE X (.ListComp elt [⟨tg, iter, ifs, 0⟩] scope pos) (dLc wi ct tt te (own.map (·.2))) :=
  (pe_lc hc hN hi ok hg ht he hs).imp fun _ _ _ h => up_lc hv h
theorem ds_setLcF {i : Nat} {y : Str} {py : Pos} {elt tg iter : Expr} {ifs : List Expr} {scope : Scope} {own : List (Str × Nat)} {pos spos : Pos} {wi : DTI} {ct : CT} {tt : DTT} {te : DTE} (hc : X.calm = true) (hN : X.N.Nodup) (hy : X.N[i]? = some y) (hyl : X.env.scope.names.lookup y = some .local)
    (hsw : swapsWith (.ListComp elt [⟨tg, iter, ifs, 0⟩] scope pos) (some (.Name y py)) spos.line X.env = pure true) (hi : DI X tg iter wi) (ok : BlkOk X.N X.env.scope scope own)
    (hv : ∀ i ∈ ct.slots, i ∈ own.map (·.2))
    (hg : ∀ (s : Shared) (H : Hp) (C : Addr) (cl : List (Str × Addr)) (fp : List Addr), PG (X.blk s H scope (compEnvC scope cl C X.env) fp) tg (ct.gV X.K)) (ht : ∀ (s : Shared) (H : Hp) (C : Addr) (cl : List (Str × Addr)) (fp : List Addr), DTs (X.blk s H scope (compEnvC scope cl C X.env) fp) ifs tt)
    (he : ∀ (s : Shared) (H : Hp) (C : Addr) (cl : List (Str × Addr)) (fp : List Addr), DE (X.blk s H scope (compEnvC scope cl C X.env) fp) elt te) (hs : ∀ x, foldedSetIterable iter X.env x = pure x := by intro _; rfl) :
    DS X (.Assign [.Name y py] (.ListComp elt [⟨tg, iter, ifs, 0⟩] scope pos) spos) (dAsg (dFrz (dLc wi ct tt te (own.map (·.2)))) (gNm i)) := by
  refine (ps_setLc (tt := upT X.K tt) (te := up X.K te) hc hN hy hyl hsw hi ok hg ht he hs).imp fun D σ H h => ?_
  obtain ⟨ρ, G, E, r, h, k1, k2, k3, k4⟩ := h
  refine up_lc (K := X.K) (Q := fun x H1 => gName i x σ H1 D.nx) hv ⟨ρ, G, _, r, h, fun v d H1 G1 e1 r1 v1 h1 => ?_⟩
  cases d with
  | ref p =>
    dsimp only at h1
    cases q : G1 p with
    | none => rw [q] at h1; exact k1 _ _ H1 G1 e1 (r1.set i v1) h1
    | some o =>
      rw [q] at h1
      cases o with
      | lst ds =>
        dsimp only at h1
        obtain ⟨xs, hx, rx⟩ := r1.gok p _ q
        have e2 : Ext G1 H1 (dropG G1 p) H1 := Ext.drop
        refine k1 _ _ H1 (dropG G1 p) (e1.trans e2) ((r1.ext e2 r1.gok.drop).set i ?_) h1
        unfold RepV at v1 ⊢
        exact ⟨p, xs, v1, ⟨dropG_same, hx⟩, rx.ext e2⟩
      | dct kvs => exact k1 _ _ H1 G1 e1 (r1.set i v1) h1
      | raw o => exact k1 _ _ H1 G1 e1 (r1.set i v1) h1
      | ins _ _ => exact k1 _ _ H1 G1 e1 (r1.set i v1) h1
      | dtp _ => exact k1 _ _ H1 G1 e1 (r1.set i v1) h1
      | tab _ => exact k1 _ _ H1 G1 e1 (r1.set i v1) h1
      | slt _ _ => exact k1 _ _ H1 G1 e1 (r1.set i v1) h1
  | _ => exact k1 _ _ H1 G1 e1 (r1.set i v1) h1
end

structure DX where
  cls : Str
  fs : List (Str × D)
abbrev DXK := DX → GH → Prop
abbrev DSp := List D → GH → DK → DXK → Prop
def ExcRep (K : PySem.W.Frag) (G : GH) (H : Hp) (x : DX) (c : Value) (od : Option Addr) : Prop := c = .ref (He.ga K x.cls) ∧ ∃ d ws, od = some d ∧ G d = none ∧ H d = some (.xd ws) ∧ ws.map (·.1) = x.fs.map (·.1) ∧ RepL K G H (x.fs.map (·.2)) (ws.map (·.2))
def toSp (K : PySem.W.Frag) (sp : DSp) : Sp := fun vs H Qv Ev => ∃ ds G Q E, RepL K G H ds vs ∧ GOk K G H ∧ sp ds G Q E ∧ (∀ v d H' G', Ext G H G' H' → GOk K G' H' → RepV K G' H' d v → Q d G' → Qv v H') ∧
  (∀ x c od H' G', Ext G H G' H' → GOk K G' H' → ExcRep K G' H' x c od → E x G' → Ev c od H')
abbrev noX : DXK := fun _ _ => False
structure GFn (P : Program) (w : World) (K : PySem.W.Frag) (mg : Str → Option Value) (base : Heap) (CX : CXT) (k : Nat) (f : Addr) (fd : FuncData) (ps : List Str) (sp : Sp) : Prop where
  arity : ∀ xs H Q E, sp xs H Q E → xs.length = ps.length
  go : ∀ (A : Around) (out : List Env) (st : Shared) (H : Hp) (ar : Args) (us : List Value) (xs : List V) (Q : VK) (E : XK), Room k A → A.guards = some [] → Env0 P w K mg base A out st H →
    BindsTo st fd ar (ps.zip us) → Vals xs us → sp xs H Q E → codeAny (model P w) A (.call (.ref f) ar) (CR CX out P w H st Q E) st
theorem GFn.up {P : Program} {w : World} {K : PySem.W.Frag} {mg : Str → Option Value} {base : Heap} {CX : CXT} {j k : Nat} {f : Addr} {fd : FuncData} {ps : List Str} {sp : Sp} (F : GFn P w K mg base CX j f fd ps sp) (h : j ≤ k) : GFn P w K mg base CX k f fd ps sp :=
  ⟨F.arity, fun A out st H ar us xs Q E hr => F.go A out st H ar us xs Q E (hr.mono h)⟩
theorem gfn_of {CX : CXT} {P : Program} {w : World} {K : PySem.W.Frag} {mg : Str → Option Value} {base : Heap} {k : Nat} {f : Addr} {fd : FuncData} {x qual : Str} {params : Arguments} {body : List Stmt} {scope : Scope} {dvs : List V} {kws : List (Str × V)}
    {N ps : List Str} {sp : Sp} (F : FunD K x qual params body scope dvs kws f fd) (S : FnScope N ps scope) (len : ∀ xs H Q E, sp xs H Q E → xs.length = ps.length)
    (hbody : ∀ (cdv : Value) (A : Around) (out : List Env) (st : Shared) (H : Hp) (xs : List V) (Q : VK) (E : XK), Room k (A.deeper (PyProof.Rows.envOfC qual scope st.heap.objs.size f cdv)) → (A.deeper (PyProof.Rows.envOfC qual scope st.heap.objs.size f cdv)).guards = some [] →
      sp xs H Q E → ∃ t, PSs (cxOf CX P w K mg base N qual scope f cdv A out st H E) body t ∧ t { nx := fun _ H' => Q .non H', rt := Q } (L2.start N xs) H) : GFn P w K mg base CX (k + 1) f fd ps sp := by
  obtain ⟨oc, od, dV, kV, doc, pm, an, cdv, ct, osl, hfd, lk, hcd, _, _⟩ := F.ex
  subst hfd
  constructor
  · exact len
  intro A out st H ar us xs Q E hr hgd e0 hb rl hsp
  have kin : K.In st.heap := PySem.W.Frag.In.keeps e0.mod.kin (fun b o e => (e0.bs b o e).1)
  have nl : st.heap.NoLimit := Heap.NoLimit.keeps e0.mod.nolimit (fun b o e => (e0.bs b o e).1)
  have kinds : ∀ y ∈ ps.zip us, scope.names.lookup y.1 = some .local ∨ (scope.names.lookup y.1 = some .cell ∧ ((cellsFrom (st.heap.objs.size + 1) scope.names []).lookup y.1).isSome = true) := by
    rintro ⟨n, v⟩ hy
    cases S.par n (List.of_mem_zip hy).1 with
    | inl q => exact .inl q
    | inr q => exact .inr ⟨q, PySem.W.cellsFrom_some _ _ _ (.inl q)⟩
  refine PySem.codeAny_call_function hr.depth (kin _ _ lk) rfl S.co S.gen rfl (PySem.W.codeRec_of kin hcd) ?_
  refine hb _ _ _ _ ?_
  refine wpAny_newFunctionEnv_cells S.kind kinds ?_
  intro env he s1 ic
  subst he
  refine ⟨nl.keeps ic.toInCall.keep, PySem.codeAny_func ?_⟩
  have gd : (A.deeper (PyProof.Rows.envOfC qual scope st.heap.objs.size f cdv)).guards = some [] := hgd
  obtain ⟨t, ht, hq⟩ := hbody cdv A out st H xs Q E (hr.deeper _) gd hsp
  have inv := inv_start (CX := CX) (E := E) S hr.hd e0 (len _ _ _ _ hsp) rl ic
  refine wpAny_mono (ht.run [] s1 _ H _ inv hq) ?_ (fun _ _ z => z)
  intro fl s2 hs
  cases fl with
  | ret u => obtain ⟨v, σ2, H2, J, rv, q⟩ := hs; exact ⟨v, H2, J.os, J.bare, J.base, J.hok, rv, q⟩
  | next => obtain ⟨σ2, H2, J, q⟩ := hs; exact ⟨V.non, H2, J.os, J.bare, J.base, J.hok, rfl, q⟩
  | brk => obtain ⟨_, _, _, q⟩ := hs; exact q.elim
  | cont => obtain ⟨_, _, _, q⟩ := hs; exact q.elim
section
variable {X : Cx} {CX : CXT} {k : Nat} {f : Addr} {fd : FuncData} {ps : List Str} {x : Str} {p pos : Pos} {e : Expr} {es : List Expr} {E : XK}
theorem g_run {sp : Sp} {pins : List (Addr × Obj)} {σ : St} {H : Hp} {s : Shared} {Q : VK} {us : List Value} {xs : List V} (F : GFn X.prog X.w X.K X.mg X.base CX k f fd ps sp) (hr : Room k X.A) (hgd : X.A.guards = some []) (hb : Binds X.K fd ps []) (hx : Passes CX X E)
    (I : Inv X pins σ H s) (r : Vals xs us) (h : sp xs H Q E) : wpAny (model X.prog X.w) X.A (PySem.call (.ref f) us) (EP X pins σ Q) X.xe s := by
  have al : (us ++ []).length = ps.length := by rw [List.append_nil, ← r.length]; exact F.arity _ _ _ _ h
  have bd := hb s us I.kIn al
  rw [List.append_nil] at bd
  refine wpAny_call (codeAny_mono (F.go X.A X.stack s H ⟨us, []⟩ us xs Q E hr hgd I.env0 bd r h) ?_)
  intro res s2 hq
  match res, hq with
  | .error er, hq => exact hx pins σ H s er s2 I hq
  | .ok (.ret u), hq => exact I.after hq
theorem ge_call {sp : Sp} {t : TA} (F : GFn X.prog X.w X.K X.mg X.base CX k f fd ps sp) (hr : Room k X.A) (hgd : X.A.guards = some []) (hg : Gl X x) (hm : X.mg x = some (.ref f)) (hk : PySem.W.keepIn X.K (.ref f) = true) (hb : Binds X.K fd ps []) (hx : Passes CX X E)
    (ha : PA X (e :: es) t) (hdb : (x == ("__debug__" : Str)) = false := by decide) (he : starEach (e :: es) X.env = (false, eval e X.env) :: starEach es X.env := by rfl) (hpl : (backTo pos (starEach es X.env)).any (·.1) = false := by rfl) :
    PE X (.Call (.Name x p) (e :: es) [] pos) (fun σ H Q => t σ H fun vs H1 => sp vs H1 Q E) := by
  constructor
  intro pins s σ H Q I h
  refine wpAny_Call_Name_kw (ld_glob I hg hm ?_ hdb)
  refine PySem.W.callWith_K (h₀ := X.base) I.ok.mod.kin hk ?_ he hpl
  refine thn (ha.run pos pins s σ H _ I h) ?_
  rintro us s1 ⟨xs, H1, I1, r, q⟩
  exact ⟨I1.kIn, g_run F hr hgd hb hx I1 r q⟩
theorem ge_call0 {sp : Sp} (F : GFn X.prog X.w X.K X.mg X.base CX k f fd ps sp) (hr : Room k X.A) (hgd : X.A.guards = some []) (hg : Gl X x) (hm : X.mg x = some (.ref f)) (hk : PySem.W.keepIn X.K (.ref f) = true) (hb : Binds X.K fd ps []) (hx : Passes CX X E)
    (hdb : (x == ("__debug__" : Str)) = false := by decide) : PE X (.Call (.Name x p) [] [] pos) (fun σ H Q => sp [] H Q E) := by
  constructor
  intro pins s σ H Q I h
  refine wpAny_Call_Name_kw (ld_glob I hg hm ?_ hdb)
  exact PySem.W.callWith_K0 I.kIn hk (g_run (us := []) F hr hgd hb hx I .nil h)
end
@[simp] def dCall (sp : DSp) (ta : DTA) : DTE := fun ρ G Q => ta ρ G fun ds G1 => sp ds G1 Q noX
abbrev DFn (P : Program) (w : World) (K : PySem.W.Frag) (mg : Str → Option Value) (base : Heap) (k : Nat) (f : Addr) (fd : FuncData) (ps : List Str) (sp : DSp) : Prop := GFn P w K mg base CX0 k f fd ps (toSp K sp)
section
variable {X : Cx} {k : Nat} {f : Addr} {fd : FuncData} {ps : List Str} {sp : DSp} {x : Str} {p pos : Pos} {e : Expr} {es : List Expr} {ta : DTA}
theorem sp_at {K : PySem.W.Frag} {σ : St} {H : Hp} {ρ : DSt} {G : GH} {Q : VK} {q : DK} {vs : List V} {ds : List D} (r : DRel K σ H ρ G) (v : RepL K G H ds vs) (h : sp ds G q noX) (k : ∀ v d H' G', Ext G H G' H' → DRel K σ H' ρ G' → RepV K G' H' d v → q d G' → Q v H') : toSp K sp vs H Q E0 :=
  ⟨ds, G, q, noX, v, r.gok, h, fun v d H' G' e2 g2 v2 h2 => k v d H' G' e2 (r.ext e2 g2) v2 h2, fun _ _ _ _ _ _ _ _ z => z.elim⟩
theorem de_call (F : DFn X.prog X.w X.K X.mg X.base k f fd ps sp) (hr : Room k X.A) (hgd : X.A.guards = some []) (hg : Gl X x) (hm : X.mg x = some (.ref f)) (hk : PySem.W.keepIn X.K (.ref f) = true) (hb : Binds X.K fd ps [])
    (ha : DA X (e :: es) ta) (hdb : (x == ("__debug__" : Str)) = false := by decide) (he : starEach (e :: es) X.env = (false, eval e X.env) :: starEach es X.env := by rfl) (hpl : (backTo pos (starEach es X.env)).any (·.1) = false := by rfl) :
    DE X (.Call (.Name x p) (e :: es) [] pos) (dCall sp ta) := (ge_call F hr hgd hg hm hk hb pass0 ha hdb he hpl).imp fun σ H Q ⟨ρ, G, q, r, h, k⟩ => by
  refine ⟨ρ, G, _, r, h, fun vs ds H1 G1 e1 r1 v1 h1 => ?_⟩
  exact sp_at r1 v1 h1 fun v d H' G' e2 r2 v2 h2 => k v d H' G' (e1.trans e2) r2 v2 h2
theorem de_call0 (F : DFn X.prog X.w X.K X.mg X.base k f fd ps sp) (hr : Room k X.A) (hgd : X.A.guards = some []) (hg : Gl X x) (hm : X.mg x = some (.ref f)) (hk : PySem.W.keepIn X.K (.ref f) = true) (hb : Binds X.K fd ps [])
    (hdb : (x == ("__debug__" : Str)) = false := by decide) : DE X (.Call (.Name x p) [] [] pos) (dCall sp dNil) := (ge_call0 F hr hgd hg hm hk hb pass0 hdb).imp fun σ H Q ⟨ρ, G, q, r, h, k⟩ => sp_at r repL_nil h k
end
def startD (n : Nat) (ds : List D) : DSt := ds.map some ++ List.replicate (n - ds.length) none
theorem start_rel {K : PySem.W.Frag} {H : Hp} {G : GH} {N : List Str} {ds : List D} {vs : List V} (rl : RepL K G H ds vs) (g : GOk K G H) : DRel K (L2.start N vs) H (startD N.length ds) G := by
  have hl := rl.length
  refine ⟨by simp [L2.start, startD, hl], fun i d h => ?_, g⟩
  unfold startD at h
  by_cases hi : i < ds.length
  · rw [List.getElem?_append_left (by simpa using hi), List.getElem?_map] at h
    cases q : ds[i]? with
    | none => rw [q] at h; simp at h
    | some d' =>
      rw [q] at h
      simp at h
      subst h
      obtain ⟨v, e1, e2⟩ := rl.get q
      refine ⟨v, ?_, e2⟩
      unfold L2.start
      rw [List.getElem?_append_left (by simp [hl]; exact hi), List.getElem?_map, e1]
      rfl
  · rw [List.getElem?_append_right (by simpa using hi), List.getElem?_replicate] at h
    split at h <;> cases h
theorem dfn_of {P : Program} {w : World} {K : PySem.W.Frag} {mg : Str → Option Value} {base : Heap} {x qual : Str} {params : Arguments} {body : List Stmt} {scope : Scope} {dvs : List V} {kws : List (Str × V)} {f : Addr} {fd : FuncData}
    {N ps : List Str} {k : Nat} {sp : DSp} {t : DTS} (F : FunD K x qual params body scope dvs kws f fd) (S : FnScope N ps scope) (len : ∀ ds G Q E, sp ds G Q E → ds.length = ps.length)
    (hbody : ∀ (cdv : Value) (A : Around) (out : List Env) (st : Shared) (H : Hp) (E : XK), Room k (A.deeper (PyProof.Rows.envOfC qual scope st.heap.objs.size f cdv)) → (A.deeper (PyProof.Rows.envOfC qual scope st.heap.objs.size f cdv)).guards = some [] →
      DSs (cxOf CX0 P w K mg base N qual scope f cdv A out st H E).nox body t)
    (ok : ∀ ds G Q E, sp ds G Q E → t { nx := fun _ G' => Q .non G', rt := Q } (startD N.length ds) G) : DFn P w K mg base (k + 1) f fd ps sp := by
  refine gfn_of F S (fun vs H Q E h => ?_) fun cdv A outer s H vs Q E hr hg h => ⟨_, PSs.nox (hbody cdv A outer s H E hr hg), ?_⟩
  · obtain ⟨ds, G, q, e, rl, _, h, _⟩ := h
    rw [rl.length]
    exact len _ _ _ _ h
  · obtain ⟨ds, G, q, e, rl, g, h, kq, ke⟩ := h
    refine ⟨startD N.length ds, G, _, start_rel rl g, ok ds G q e h, ?_, ?_, ?_, ?_⟩
    · exact fun σ' ρ' H' G' e' r' h' => kq .non .non H' G' e' r'.gok (by unfold RepV; rfl) h'
    · exact fun v d H' G' e' g' v' h' => kq v d H' G' e' g' v' h'
    · exact fun _ _ _ _ _ _ z => z.elim
    · exact fun _ _ _ _ _ _ z => z.elim
end Dl

namespace Dl
open PySem L2

@[simp] def lsOf (G : GH) : D → Option (List D)
  | .lst ds => some ds
  | .ref a => (match G a with
    | some (.lst ds) => some ds
    | _ => none)
  | _ => none
@[simp] def sqOf (G : GH) : D → Option (List D)
  | .tup ds => some ds
  | .lst ds => some ds
  | .ref a => (match G a with
    | some (.lst ds) => some ds
    | _ => none)
  | _ => none
section
variable {K : PySem.W.Frag} {G : GH} {H : Hp} {d : D} {v : V} {ds : List D}
theorem ls_at (g : GOk K G H) (r : RepV K G H d v) (h : lsOf G d = some ds) : ∃ a xs, v = .ref a ∧ H a = some (.lst xs) ∧ RepL K G H ds xs := by
  cases d with
  | lst es =>
    simp only [lsOf, Option.some.injEq] at h
    subst h
    unfold RepV at r
    obtain ⟨a, xs, rfl, ta, rl⟩ := r
    exact ⟨a, xs, rfl, ta.2, rl⟩
  | ref a =>
    simp only [lsOf] at h
    unfold RepV at r
    subst r
    cases q : G a with
    | none => rw [q] at h; cases h
    | some o =>
      rw [q] at h
      cases o with
      | lst es =>
        simp only [Option.some.injEq] at h
        subst h
        obtain ⟨xs, h1, h2⟩ := g a _ q
        exact ⟨a, xs, rfl, h1, h2⟩
      | dct _ => cases h
      | raw _ => cases h
      | ins _ _ => cases h
      | dtp _ => cases h
      | tab _ => cases h
      | slt _ _ => cases h
  | _ => simp [lsOf] at h
theorem tp_at (r : RepV K G H (.tup ds) v) : ∃ a xs, v = .ref a ∧ SqT K H a xs ∧ RepL K G H ds xs := by
  unfold RepV at r
  obtain ⟨a, xs, rfl, ta, rl⟩ := r
  exact ⟨a, xs, rfl, ta.sq, rl⟩
theorem sq_at (g : GOk K G H) (r : RepV K G H d v) (h : sqOf G d = some ds) : ∃ a xs, v = .ref a ∧ (SqL K H a xs ∨ SqT K H a xs) ∧ RepL K G H ds xs := by
  cases d with
  | tup es =>
    simp only [sqOf, Option.some.injEq] at h
    subst h
    obtain ⟨a, xs, e, t, rl⟩ := tp_at r
    exact ⟨a, xs, e, .inr t, rl⟩
  | lst es =>
    obtain ⟨a, xs, e, t, rl⟩ := ls_at g r (ds := ds) h
    exact ⟨a, xs, e, .inl (SqL.of t), rl⟩
  | ref a =>
    obtain ⟨a, xs, e, t, rl⟩ := ls_at g r (ds := ds) h
    exact ⟨a, xs, e, .inl (SqL.of t), rl⟩
  | _ => simp [sqOf] at h
theorem rv_int {i : Int} (r : RepV K G H (.int i) v) : v = .int i := by unfold RepV at r; exact r
theorem rv_bl {i : Bool} (r : RepV K G H (.bl i) v) : v = .bl i := by unfold RepV at r; exact r
theorem rv_str {i : Str} (r : RepV K G H (.str i) v) : v = .str i := by unfold RepV at r; exact r
theorem rv_non (r : RepV K G H .non v) : v = .non := by unfold RepV at r; exact r
theorem rv_ref {a : Addr} (r : RepV K G H (.ref a) v) : v = .ref a := by unfold RepV at r; exact r
theorem int_rv {i : Int} : RepV K G H (.int i) (.int i) := by unfold RepV; rfl
theorem bl_rv {i : Bool} : RepV K G H (.bl i) (.bl i) := by unfold RepV; rfl
theorem str_rv {i : Str} : RepV K G H (.str i) (.str i) := by unfold RepV; rfl
theorem non_rv : RepV K G H .non .non := by unfold RepV; rfl
theorem ref_rv {a : Addr} : RepV K G H (.ref a) (.ref a) := by unfold RepV; rfl
theorem new_tup {p : Addr} {vs : List V} (g : GOk K G H) (hp : H p = none) (hv : RepL K G H ds vs) : Ext G H G (upd H p (.tup vs)) ∧ GOk K G (upd H p (.tup vs)) ∧ RepV K G (upd H p (.tup vs)) (.tup ds) (.ref p) := by
  have e : Ext G H G (upd H p (.tup vs)) := Ext.new hp
  refine ⟨e, g.new hp, ?_⟩
  unfold RepV
  exact ⟨p, vs, rfl, .inl ⟨g.fresh hp, upd_same⟩, hv.ext e⟩
theorem new_lst {p : Addr} {vs : List V} (g : GOk K G H) (hp : H p = none) (hv : RepL K G H ds vs) : Ext G H (updG G p (.lst ds)) (upd H p (.lst vs)) ∧ GOk K (updG G p (.lst ds)) (upd H p (.lst vs)) ∧ RepV K (updG G p (.lst ds)) (upd H p (.lst vs)) (.ref p) (.ref p) := by
  have e : Ext G H (updG G p (.lst ds)) (upd H p (.lst vs)) := Ext.newG hp
  exact ⟨e, g.put e ⟨vs, upd_same, hv.ext e⟩, ref_rv⟩
theorem put_lst {p : Addr} {vs : List V} {o : DO} (g : GOk K G H) (hp : G p = some o) (hv : RepL K G H ds vs) : Ext G H (updG G p (.lst ds)) (upd H p (.lst vs)) ∧ GOk K (updG G p (.lst ds)) (upd H p (.lst vs)) := by
  have e : Ext G H (updG G p (.lst ds)) (upd H p (.lst vs)) := Ext.write hp
  exact ⟨e, g.put e ⟨vs, upd_same, hv.ext e⟩⟩
end

@[simp] def rCatL (G : GH) (Q : DK) (a b : List D) : Prop := a.length + b.length ≤ sizeLine ∧ ∀ p, G p = none → Q (.ref p) (updG G p (.lst (a ++ b)))
@[simp] def rAdd : DR2 := fun x y G Q => match x with
  | .int i => (match y with
    | .int j => Q (.int (i + j)) G
    | _ => False)
  | .str a => (match y with
    | .str b => a.length + b.length ≤ sizeLine ∧ Q (.str (a ++ b)) G
    | _ => False)
  | .tup a => (match y with
    | .tup b => a.length + b.length ≤ sizeLine ∧ Q (.tup (a ++ b)) G
    | _ => False)
  | .lst a => (match lsOf G y with
    | some b => rCatL G Q a b
    | none => False)
  | .ref p => (match lsOf G (.ref p) with
    | some a => (match lsOf G y with
      | some b => rCatL G Q a b
      | none => False)
    | none => False)
  | _ => False
section
variable {X : Cx}
theorem cat_lists {pins : List (Addr × Obj)} {s : Shared} {σ : St} {H : Hp} {x y : V} {v u : Value} {Qv : VK} {G : GH} {dx dy : D} {q : DK} {a b : List D} (I : Inv X pins σ H s) (rx : RelV x v) (ry : RelV y u) (g : GOk X.K G H) (r1 : RepV X.K G H dx x) (r2 : RepV X.K G H dy y)
    (ha : lsOf G dx = some a) (hb : lsOf G dy = some b) (h : rCatL G q a b) (k : ∀ v d H' G', Ext G H G' H' → GOk X.K G' H' → RepV X.K G' H' d v → q d G' → Qv v H') : wpAny (model X.prog X.w) X.A (binaryOp .Add v u) (EP X pins σ Qv) X.xe s := by
  obtain ⟨l, xs, rfl, h1, l1⟩ := ls_at g r1 ha
  obtain ⟨m, ys, rfl, h2, l2⟩ := ls_at g r2 hb
  refine op_cat pins s σ H _ _ v u Qv I rx ry ⟨l, m, xs, ys, rfl, rfl, h1, h2, by rw [l1.length, l2.length]; exact h.1, fun p hp => ?_⟩
  obtain ⟨e, g', rv⟩ := new_lst g hp (l1.append l2)
  exact k _ _ _ _ e g' rv (h.2 p (g.fresh hp))
theorem o_add : DOp X (binaryOp .Add) rAdd := by
  intro pins s σ H x y v u Q I rx ry ⟨G, dx, dy, q, g, r1, r2, h, k⟩
  cases dx with
  | int i =>
    cases dy with
    | int j =>
      cases rv_int r1; cases rv_int r2
      exact op_add pins s σ H _ _ v u Q I rx ry ⟨i, j, rfl, rfl, k _ _ H G (Ext.refl G H) g int_rv h⟩
    | _ => exact h.elim
  | str a =>
    cases dy with
    | str b =>
      cases rv_str r1; cases rv_str r2
      exact op_add_str pins s σ H _ _ v u Q I rx ry ⟨a, b, rfl, rfl, h.1, k _ _ H G (Ext.refl G H) g str_rv h.2⟩
    | _ => exact h.elim
  | tup a =>
    cases dy with
    | tup b =>
      obtain ⟨l, xs, rfl, h1, l1⟩ := tp_at r1
      obtain ⟨m, ys, rfl, h2, l2⟩ := tp_at r2
      refine op_catA pins s σ H _ _ v u Q I rx ry ⟨l, m, xs, ys, rfl, rfl, h1, h2, by rw [l1.length, l2.length]; exact h.1, fun e => ?_, fun _ e => ?_, fun _ _ p hp => ?_⟩
      · have ea : a = [] := List.eq_nil_of_length_eq_zero (by rw [← l1.length, e]; rfl)
        subst ea
        exact k _ _ H G (Ext.refl G H) g r2 h.2
      · have ea : b = [] := List.eq_nil_of_length_eq_zero (by rw [← l2.length, e]; rfl)
        subst ea
        have h2 := h.2
        rw [List.append_nil] at h2
        exact k _ _ H G (Ext.refl G H) g r1 h2
      · obtain ⟨e, g', rv⟩ := new_tup g hp (l1.append l2)
        exact k _ _ _ _ e g' rv h.2
    | _ => exact h.elim
  | lst a =>
    dsimp only [rAdd] at h
    cases q2 : lsOf G dy with
    | none => rw [q2] at h; exact h.elim
    | some b => rw [q2] at h; exact cat_lists I rx ry g r1 r2 rfl q2 h k
  | ref p =>
    dsimp only [rAdd] at h
    cases q1 : lsOf G (.ref p) with
    | none => rw [q1] at h; exact h.elim
    | some a =>
      rw [q1] at h
      cases q2 : lsOf G dy with
      | none => rw [q2] at h; exact h.elim
      | some b => rw [q2] at h; exact cat_lists I rx ry g r1 r2 q1 q2 h k
  | _ => exact h.elim

@[simp] def rInt (C : Int → Int → Prop) (f : Int → Int → D) : DR2 := fun x y G Q => match x with
  | .int i => (match y with
    | .int j => C i j ∧ Q (f i j) G
    | _ => False)
  | _ => False
theorem o_int {f : Value → Value → Sem Value} {C : Int → Int → Prop} {g : Int → Int → Int} (ho : OpR X f (rI C fun i j => .int (g i j))) : DOp X f (rInt C fun i j => .int (g i j)) := by
  intro pins s σ H x y v u Q I rx ry ⟨G, dx, dy, q, g, r1, r2, h, k⟩
  cases dx with
  | int i =>
    cases dy with
    | int j =>
      cases rv_int r1; cases rv_int r2
      exact ho pins s σ H _ _ v u Q I rx ry ⟨i, j, rfl, rfl, h.1, k _ _ H G (Ext.refl G H) g int_rv h.2⟩
    | _ => exact h.elim
  | _ => exact h.elim
@[simp] def rInt0 (f : Int → Int → D) : DR2 := fun x y G Q => match x with
  | .int i => (match y with
    | .int j => Q (f i j) G
    | _ => False)
  | _ => False
theorem o_sub : DOp X (binaryOp .Sub) (rInt0 fun i j => .int (i - j)) := by
  intro pins s σ H x y v u Q I rx ry ⟨G, dx, dy, q, g, r1, r2, h, k⟩
  cases dx with
  | int i =>
    cases dy with
    | int j =>
      cases rv_int r1; cases rv_int r2
      exact op_sub pins s σ H _ _ v u Q I rx ry ⟨i, j, rfl, rfl, k _ _ H G (Ext.refl G H) g int_rv h⟩
    | _ => exact h.elim
  | _ => exact h.elim
theorem o_cmpI {f : Value → Value → Sem Value} {p : Int → Int → Bool} (ho : OpR X f (rI0 fun i j => .bl (p i j))) : DOp X f (rInt0 fun i j => .bl (p i j)) := by
  intro pins s σ H x y v u Q I rx ry ⟨G, dx, dy, q, g, r1, r2, h, k⟩
  cases dx with
  | int i =>
    cases dy with
    | int j =>
      cases rv_int r1; cases rv_int r2
      exact ho pins s σ H _ _ v u Q I rx ry ⟨i, j, rfl, rfl, k _ _ H G (Ext.refl G H) g bl_rv h⟩
    | _ => exact h.elim
  | _ => exact h.elim
abbrev rLt : DR2 := rInt0 fun i j => .bl (decide (i < j))
abbrev rLe : DR2 := rInt0 fun i j => .bl (decide (i ≤ j))
abbrev rGt : DR2 := rInt0 fun i j => .bl (decide (j < i))
abbrev rGe : DR2 := rInt0 fun i j => .bl (decide (j ≤ i))
theorem o_lt : DOp X (compareOp .Lt) rLt := o_cmpI op_lt
theorem o_le : DOp X (compareOp .LtE) rLe := o_cmpI op_le
theorem o_gt : DOp X (compareOp .Gt) rGt := o_cmpI op_gt
theorem o_ge : DOp X (compareOp .GtE) rGe := o_cmpI op_ge
abbrev rMod : DR2 := rInt (fun _ j => 0 < j) fun i j => .int (i % j)
abbrev rFdiv : DR2 := rInt CDiv fun i j => .int (i / j)
abbrev rPow : DR2 := rInt CPow fun i j => .int (i ^ j.toNat)
abbrev rSub : DR2 := rInt0 fun i j => .int (i - j)
theorem o_mod : DOp X (binaryOp .Mod) rMod := o_int op_mod
theorem o_fdiv : DOp X (binaryOp .FloorDiv) rFdiv := o_int op_fdiv
theorem o_pow : DOp X (binaryOp .Pow) rPow := o_int op_pow
end

section
open PySem.Spec PyProof.Rows
theorem tuple_mul0 (l : Addr) (items : Array Value) (n : Nat) (dd : Option Addr) (sl : Array (Option Value)) (x : Int) (u : Tok) (c0 : (decide (x < -(2 ^ 63)) || decide (x ≥ 2 ^ 63)) = false) (c1 : (items.isEmpty || x == 1) = false) (c2 : (decide (x ≤ 0) || items.isEmpty) = true) :
    Meets (Builtin.«tuple.__mul__» ⟨[.ref l, .int x u], []⟩) (fun _ R s => s.heap.get? l = some { cls := .type "tuple", dict := dd, data := .seq items n, slots := sl } ∧
      R (.ok (.ret (Value.ref s.heap.objs.size))) { s with heap := s.heap.push { cls := Value.type "tuple", data := Data.seq #[] }, toks := s.toks }) :=
  .of_wp fun prog w A R s h => by
    obtain ⟨hp, g, d, tk, os⟩ := s
    obtain ⟨hl, h⟩ := h
    have f1 := AutoSeq1.idx_int
    wp_walk using wpAny_loadPart' hl
    repeat (first
      | (refine wpAny_ite_false (decide_eq_false (by rw [c0]; exact Bool.false_ne_true)) ?_; wp_walk using wpAny_loadPart' hl)
      | (refine wpAny_ite_false (decide_eq_false (by rw [c1]; exact Bool.false_ne_true)) ?_; wp_walk using wpAny_loadPart' hl)
      | (refine wpAny_ite_true (decide_eq_true c2) ?_; wp_walk using wpAny_loadPart' hl))
    exact ⟨_, rfl, h⟩
theorem tuple_mul1 (l : Addr) (items : Array Value) (n : Nat) (dd : Option Addr) (sl : Array (Option Value)) (x : Int) (u : Tok) (c0 : (decide (x < -(2 ^ 63)) || decide (x ≥ 2 ^ 63)) = false) (c1 : (items.isEmpty || x == 1) = true) :
    Meets (Builtin.«tuple.__mul__» ⟨[.ref l, .int x u], []⟩) (fun _ R s => s.heap.get? l = some { cls := .type "tuple", dict := dd, data := .seq items n, slots := sl } ∧
      R (.ok (.ret (Value.ref l))) s) :=
  .of_wp fun prog w A R s h => by
    obtain ⟨hp, g, d, tk, os⟩ := s
    obtain ⟨hl, h⟩ := h
    have f1 := AutoSeq1.idx_int
    wp_walk using wpAny_loadPart' hl
    repeat (first
      | (refine wpAny_ite_false (decide_eq_false (by rw [c0]; exact Bool.false_ne_true)) ?_; wp_walk using wpAny_loadPart' hl)
      | (refine wpAny_ite_true (decide_eq_true c1) ?_; wp_walk using wpAny_loadPart' hl))
    exact ⟨_, rfl, h⟩
end
end Dl

namespace Dl
open PySem L2

section
open PySem.Spec PyProof.Rows
variable {X : Cx}
theorem tup_rep {pins : List (Addr × Obj)} {s : Shared} {σ : L2.St} {H : Hp} {l : Addr} {xs : List V} {k : Int} {t : Tok} {Q : VK} (I : Inv X pins σ H s) (hT : SqT X.K H l xs) (hk : -(2 ^ 63) ≤ k ∧ k < 2 ^ 63)
    (h : (xs = [] ∨ k = 1 → Q (.ref l) H) ∧ (xs ≠ [] → k ≤ 0 → ∀ p, H p = none → Q (.ref p) (upd H p (.tup [])))) (hc : xs = [] ∨ k ≤ 1) : wpAny (model X.prog X.w) X.A (binaryOp .Mult (.ref l) (.int k t)) (EP X pins σ Q) X.xe s := by
  obtain ⟨its, r, ⟨⟨cls, dd, data, sl⟩, ho, hcl, n, hd⟩, hs⟩ := I.tuple hT
  simp only at hcl hd
  subst hcl hd
  have hle : its.length = xs.length := r.length.symm
  have c0 : (decide (k < -(2 ^ 63)) || decide (k ≥ 2 ^ 63)) = false := by
    rw [decide_eq_false (by omega), decide_eq_false (by omega)] <;> rfl
  by_cases c1 : (its.toArray.isEmpty || k == 1) = true
  · refine wpAny_binaryOp_repeat_ref (T := "tuple") (U := "int") (by decide) ⟨_, ho, rfl⟩ (fun s' => typeIs_int s' k t) noFill_tuple_mul F.fills_int_mul F.slot_int_rmul repeat_tuple F.slot_int_index.lookup
      (call_meets F.slot_int_rmul (typeIs_int s k t) F.entry_int_rmul (F.args_int_rmul_2 _ _) (int_rmul_tuple k t l its.toArray n dd sl)
        ⟨ho, rfl, ⟨_, ho, rfl⟩, call_meets F.slot_tuple_mul ⟨_, ho, rfl⟩ F.entry_tuple_mul (F.args_tuple_mul_2 _ _) (tuple_mul1 l its.toArray n dd sl k t c0 c1) ⟨ho, ?_⟩⟩)
    refine ⟨.ref l, H, I, rfl, h.1 ?_⟩
    rw [Bool.or_eq_true] at c1
    rcases c1 with c1 | c1
    · refine .inl (List.eq_nil_of_length_eq_zero ?_)
      rw [← hle]
      simpa using c1
    · exact .inr (eq_of_beq c1)
  · have c1' : (its.toArray.isEmpty || k == 1) = false := by simpa using c1
    have hne : xs ≠ [] := fun e => by
      apply c1
      rw [e] at hle
      have : its = [] := List.eq_nil_of_length_eq_zero hle
      subst this
      rfl
    have hk1 : k ≠ 1 := fun e => by
      apply c1
      subst e
      simp
    have hk0 : k ≤ 0 := by
      rcases hc with e | e
      · exact absurd e hne
      · omega
    have c2 : (decide (k ≤ 0) || its.toArray.isEmpty) = true := by rw [decide_eq_true hk0] <;> rfl
    refine wpAny_binaryOp_repeat_ref (T := "tuple") (U := "int") (by decide) ⟨_, ho, rfl⟩ (fun s' => typeIs_int s' k t) noFill_tuple_mul F.fills_int_mul F.slot_int_rmul repeat_tuple F.slot_int_index.lookup
      (call_meets F.slot_int_rmul (typeIs_int s k t) F.entry_int_rmul (F.args_int_rmul_2 _ _) (int_rmul_tuple k t l its.toArray n dd sl)
        ⟨ho, rfl, ⟨_, ho, rfl⟩, call_meets F.slot_tuple_mul ⟨_, ho, rfl⟩ F.entry_tuple_mul (F.args_tuple_mul_2 _ _) (tuple_mul0 l its.toArray n dd sl k t c0 c1' c2) ⟨ho, ?_⟩⟩)
    have hf : H s.heap.objs.size = none := I.hok.fresh (Nat.le_refl _)
    refine ⟨.ref s.heap.objs.size, upd H s.heap.objs.size (.tup []), I.laid (t' := s.toks) (fun b u e => Heap.get?_push_of_some _ e) (Nat.le_refl _) ?_, rfl, h.2 hne hk0 _ hf⟩
    exact ⟨Nat.zero_le _, [], .nil, ⟨_, Heap.get?_push_size _ rfl, rfl, _, rfl⟩⟩
end
@[simp] def rRepL (G : GH) (Q : DK) (a : List D) (y : D) : Prop := match y with
  | .int k => -(2 ^ 63) ≤ k ∧ k < 2 ^ 63 ∧ a.length * k.toNat ≤ sizeLine ∧ ∀ p, G p = none → Q (.ref p) (updG G p (.lst (List.replicate k.toNat a).flatten))
  | _ => False
@[simp] def rMul : DR2 := fun x y G Q => match x with
  | .int i => (match y with
    | .int j => CMul i j ∧ Q (.int (i * j)) G
    | _ => False)
  | .tup a => (match y with
    | .int k => -(2 ^ 63) ≤ k ∧ k ≤ 1000 ∧ (a.length ≤ 1000 ∨ k ≤ 1) ∧ Q (.tup (List.replicate k.toNat a).flatten) G
    | _ => False)
  | .lst a => rRepL G Q a y
  | .ref p => (match lsOf G (.ref p) with
    | some a => rRepL G Q a y
    | none => False)
  | _ => False
section
variable {X : Cx}
theorem rep_list {pins : List (Addr × Obj)} {s : Shared} {σ : St} {H : Hp} {x y : V} {v u : Value} {Qv : VK} {G : GH} {dx dy : D} {q : DK} {a : List D} (I : Inv X pins σ H s) (rx : RelV x v) (ry : RelV y u) (g : GOk X.K G H) (r1 : RepV X.K G H dx x) (r2 : RepV X.K G H dy y)
    (ha : lsOf G dx = some a) (h : rRepL G q a dy) (k : ∀ v d H' G', Ext G H G' H' → GOk X.K G' H' → RepV X.K G' H' d v → q d G' → Qv v H') : wpAny (model X.prog X.w) X.A (binaryOp .Mult v u) (EP X pins σ Qv) X.xe s := by
  obtain ⟨l, xs, rfl, h1, l1⟩ := ls_at g r1 ha
  cases dy with
  | int j =>
    cases rv_int r2
    obtain ⟨h2, h3, h4, h5⟩ := h
    refine op_rep pins s σ H _ _ v u Qv I rx ry ⟨l, j, xs, rfl, rfl, h1, h2, h3, by rw [l1.length]; exact h4, fun p hp => ?_⟩
    obtain ⟨e, g', rv⟩ := new_lst g hp (l1.rep j.toNat)
    exact k _ _ _ _ e g' rv (h5 p (g.fresh hp))
  | _ => exact h.elim
theorem o_mul : DOp X (binaryOp .Mult) rMul := by
  intro pins s σ H x y v u Q I rx ry ⟨G, dx, dy, q, g, r1, r2, h, k⟩
  cases dx with
  | int i =>
    cases dy with
    | int j =>
      cases rv_int r1; cases rv_int r2
      exact op_mul pins s σ H _ _ v u Q I rx ry ⟨i, j, rfl, rfl, h.1, k _ _ H G (Ext.refl G H) g int_rv h.2⟩
    | _ => exact h.elim
  | tup a =>
    cases dy with
    | int j =>
      obtain ⟨l, xs, rfl, h1, l1⟩ := tp_at r1
      cases rv_int r2
      obtain ⟨h2, h3, h4, h5⟩ := h
      by_cases hc : xs = [] ∨ j ≤ 1
      · cases rx
        obtain ⟨t, rfl⟩ := ry
        refine tup_rep I h1 ⟨h2, by omega⟩ ⟨fun z => ?_, fun hne h0 p hp => ?_⟩ hc
        · refine k _ _ H G (Ext.refl G H) g ?_ h5
          have e : (List.replicate j.toNat a).flatten = a := by
            rcases z with z | z
            · have ea : a = [] := List.eq_nil_of_length_eq_zero (by rw [← l1.length, z]; rfl)
              subst ea
              simp
            · subst z
              simp
          rw [e]
          exact r1
        · have e : (List.replicate j.toNat a).flatten = [] := by
            have : j.toNat = 0 := by omega
            rw [this]; rfl
          rw [e] at h5
          obtain ⟨e1, g1, v1⟩ := new_tup (ds := []) (vs := []) g hp repL_nil
          exact k _ _ _ _ e1 g1 v1 h5
      · simp only [not_or] at hc
        refine op_repT pins s σ H _ _ v u Q I rx ry ⟨l, j, xs, rfl, rfl, h1, hc.1, by omega, h3, by rw [l1.length]; exact h4.resolve_right hc.2, fun p hp => ?_⟩
        obtain ⟨e1, g1, v1⟩ := new_tup g hp (l1.rep j.toNat)
        exact k _ _ _ _ e1 g1 v1 h5
    | _ => exact h.elim
  | lst a => exact rep_list I rx ry g r1 r2 rfl h k
  | ref p =>
    dsimp only [rMul] at h
    cases q1 : lsOf G (.ref p) with
    | none => rw [q1] at h; exact h.elim
    | some a => rw [q1] at h; exact rep_list I rx ry g r1 r2 q1 h k
  | _ => exact h.elim
end

mutual
def pyD : D → PyData
  | .non => .none
  | .bl b => .bool b
  | .int i => .int i
  | .str x => .str x
  | .tup ds => .tuple (pyDs ds)
  | .lst ds => .list (pyDs ds)
  | .byt _ => .none
  | .ref _ => .none
  | .scr _ => .none
  | .fn _ _ _ _ => .none
  | .exh _ _ _ _ _ => .none
def pyDs : List D → List PyData
  | [] => []
  | d :: ds => pyD d :: pyDs ds
end
mutual
/-- data with nothing but None, bools, ints, texts, tuples, frozen lists in it -/
def pureD : D → Bool
  | .non => true
  | .bl _ => true
  | .int _ => true
  | .str x => PyData.strOk x
  | .tup ds => pureDs ds
  | .lst ds => pureDs ds
  | _ => false
def pureDs : List D → Bool
  | [] => true
  | d :: ds => pureD d && pureDs ds
end
mutual
def depD : D → Nat
  | .tup ds => depDs ds + 1
  | .lst ds => depDs ds + 1
  | _ => 0
def depDs : List D → Nat
  | [] => 0
  | d :: ds => max (depD d) (depDs ds)
end
mutual
def eqvD : D → D → Bool
  | .non, .non => true
  | .bl a, .bl b => a == b
  | .bl a, .int j => (if a then 1 else 0) == j
  | .int i, .bl b => i == (if b then 1 else 0)
  | .int i, .int j => i == j
  | .str x, .str y => x == y
  | .tup a, .tup b => eqvDs a b
  | .lst a, .lst b => eqvDs a b
  | _, _ => false
def eqvDs : List D → List D → Bool
  | [], [] => true
  | x :: xs, y :: ys => eqvD x y && eqvDs xs ys
  | _, _ => false
end
mutual
theorem depth_py : ∀ d : D, (pyD d).depth = depD d
  | .non => by simp [pyD, depD, PyData.depth]
  | .bl _ => by simp [pyD, depD, PyData.depth]
  | .int _ => by simp [pyD, depD, PyData.depth]
  | .str _ => by simp [pyD, depD, PyData.depth]
  | .tup ds => by simp [pyD, depD, PyData.depth, depths_py ds]
  | .lst ds => by simp [pyD, depD, PyData.depth, depths_py ds]
  | .byt _ => by simp [pyD, depD, PyData.depth]
  | .ref _ => by simp [pyD, depD, PyData.depth]
  | .scr _ => by simp [pyD, depD, PyData.depth]
  | .fn _ _ _ _ => by simp [pyD, depD, PyData.depth]
  | .exh _ _ _ _ _ => by simp [pyD, depD, PyData.depth]
theorem depths_py : ∀ ds : List D, PyData.depthAll (pyDs ds) = depDs ds
  | [] => by simp [pyDs, depDs, PyData.depthAll]
  | d :: ds => by simp [pyDs, depDs, PyData.depthAll, depth_py d, depths_py ds]
end
mutual
theorem lay_py : ∀ d : D, pureD d = true → (pyD d).canLay0 = true
  | .non, _ => by simp [pyD, PyData.canLay0]
  | .bl _, _ => by simp [pyD, PyData.canLay0]
  | .int _, _ => by simp [pyD, PyData.canLay0]
  | .str x, h => by simpa [pyD, PyData.canLay0, pureD] using h
  | .tup ds, h => by simpa [pyD, PyData.canLay0] using lays_py ds (by simpa [pureD] using h)
  | .lst ds, h => by simpa [pyD, PyData.canLay0] using lays_py ds (by simpa [pureD] using h)
  | .byt _, h => by simp [pureD] at h
  | .ref _, h => by simp [pureD] at h
  | .scr _, h => by simp [pureD] at h
  | .fn _ _ _ _, h => by simp [pureD] at h
  | .exh _ _ _ _ _, h => by simp [pureD] at h
theorem lays_py : ∀ ds : List D, pureDs ds = true → PyData.canLayAll0 (pyDs ds) = true
  | [], _ => by simp [pyDs, PyData.canLayAll0]
  | d :: ds, h => by
    simp only [pureDs, Bool.and_eq_true] at h
    simp [pyDs, PyData.canLayAll0, lay_py d h.1, lays_py ds h.2]
end
mutual
theorem eqv_py : ∀ a b : D, pureD a = true → pureD b = true → PyData.eqv (pyD a) (pyD b) = eqvD a b
  | .tup xs, b, h, k => by
    cases b with
    | tup ys => simpa [pyD, PyData.eqv, eqvD] using eqvs_py xs ys (by simpa [pureD] using h) (by simpa [pureD] using k)
    | byt _ => simp [pureD] at k
    | ref _ => simp [pureD] at k
    | scr _ => simp [pureD] at k
    | fn _ _ _ _ => simp [pureD] at k
    | exh _ _ _ _ _ => simp [pureD] at k
    | _ => simp [pyD, PyData.eqv, eqvD]
  | .lst xs, b, h, k => by
    cases b with
    | lst ys => simpa [pyD, PyData.eqv, eqvD] using eqvs_py xs ys (by simpa [pureD] using h) (by simpa [pureD] using k)
    | byt _ => simp [pureD] at k
    | ref _ => simp [pureD] at k
    | scr _ => simp [pureD] at k
    | fn _ _ _ _ => simp [pureD] at k
    | exh _ _ _ _ _ => simp [pureD] at k
    | _ => simp [pyD, PyData.eqv, eqvD]
  | .non, b, h, k => by cases b <;> first | (simp [pureD] at k; done) | simp [pyD, PyData.eqv, eqvD]
  | .bl _, b, h, k => by cases b <;> first | (simp [pureD] at k; done) | simp [pyD, PyData.eqv, eqvD]
  | .int _, b, h, k => by cases b <;> first | (simp [pureD] at k; done) | simp [pyD, PyData.eqv, eqvD]
  | .str _, b, h, k => by
    cases b with
    | str _ => simp [pyD, PyData.eqv, eqvD]
    | byt _ => simp [pureD] at k
    | ref _ => simp [pureD] at k
    | scr _ => simp [pureD] at k
    | fn _ _ _ _ => simp [pureD] at k
    | exh _ _ _ _ _ => simp [pureD] at k
    | _ => simp [pyD, PyData.eqv, eqvD]
  | .byt _, _, h, _ => by simp [pureD] at h
  | .ref _, _, h, _ => by simp [pureD] at h
  | .scr _, _, h, _ => by simp [pureD] at h
  | .fn _ _ _ _, _, h, _ => by simp [pureD] at h
  | .exh _ _ _ _ _, _, h, _ => by simp [pureD] at h
theorem eqvs_py : ∀ a b : List D, pureDs a = true → pureDs b = true → PyData.eqvAll (pyDs a) (pyDs b) = eqvDs a b
  | [], [], _, _ => by simp [pyDs, PyData.eqvAll, eqvDs]
  | [], _ :: _, _, _ => by simp [pyDs, PyData.eqvAll, eqvDs]
  | _ :: _, [], _, _ => by simp [pyDs, PyData.eqvAll, eqvDs]
  | x :: xs, y :: ys, h, k => by
    simp only [pureDs, Bool.and_eq_true] at h k
    simp [pyDs, PyData.eqvAll, eqvDs, eqv_py x y h.1 k.1, eqvs_py xs ys h.2 k.2]
end
mutual
theorem dp_of {K : PySem.W.Frag} {G : GH} {H : Hp} : ∀ {d : D} {v : V}, RepV K G H d v → pureD d = true → Dp K H v (pyD d)
  | .non, v, h, _ => by cases rv_non h; simp only [pyD]; exact .non
  | .bl b, v, h, _ => by cases rv_bl h; simp only [pyD]; exact .bl b
  | .int i, v, h, _ => by cases rv_int h; simp only [pyD]; exact .int i
  | .str x, v, h, _ => by cases rv_str h; simp only [pyD]; exact .str x
  | .tup ds, v, h, k => by
    obtain ⟨a, xs, rfl, t, rl⟩ := tp_at h
    simp only [pyD]
    exact .tup t (dps_of rl (by simpa [pureD] using k))
  | .lst ds, v, h, k => by
    unfold RepV at h
    obtain ⟨a, xs, rfl, t, rl⟩ := h
    simp only [pyD]
    exact .lst t.sq (dps_of rl (by simpa [pureD] using k))
  | .byt _, _, _, k => by simp [pureD] at k
  | .ref _, _, _, k => by simp [pureD] at k
  | .scr _, _, _, k => by simp [pureD] at k
  | .fn _ _ _ _, _, _, k => by simp [pureD] at k
  | .exh _ _ _ _ _, _, _, k => by simp [pureD] at k
theorem dps_of {K : PySem.W.Frag} {G : GH} {H : Hp} : ∀ {ds : List D} {vs : List V}, RepL K G H ds vs → pureDs ds = true → DpAll K H vs (pyDs ds)
  | [], vs, h, _ => by unfold RepL at h; subst h; simp only [pyDs]; exact .nil
  | d :: ds, vs, h, k => by
    unfold RepL at h
    obtain ⟨x, r, rfl, h1, h2⟩ := h
    simp only [pureDs, Bool.and_eq_true] at k
    simp only [pyDs]
    exact .cons (dp_of h1 k.1) (dps_of h2 k.2)
end
@[simp] def vw (G : GH) : D → D
  | .ref a => (match G a with
    | some (.lst ds) => .lst ds
    | _ => .ref a)
  | d => d
theorem vw_dp {K : PySem.W.Frag} {G : GH} {H : Hp} {d : D} {v : V} (g : GOk K G H) (r : RepV K G H d v) (h : pureD (vw G d) = true) : Dp K H v (pyD (vw G d)) := by
  cases d with
  | ref a =>
    cases rv_ref r
    dsimp only [vw] at h ⊢
    cases q : G a with
    | none => rw [q] at h; simp [pureD] at h
    | some o =>
      rw [q] at h
      cases o with
      | lst ds =>
        obtain ⟨xs, h1, rl⟩ := g a _ q
        simp only [pyD]
        exact .lst (SqL.of h1) (dps_of rl (by simpa [pureD] using h))
      | dct _ => simp [pureD] at h
      | raw _ => simp [pureD] at h
      | ins _ _ => simp [pureD] at h
      | dtp _ => simp [pureD] at h
      | tab _ => simp [pureD] at h
      | slt _ _ => simp [pureD] at h
  | _ => exact dp_of r h
def okD (d : D) : Prop := pureD d = true ∧ depD d ≤ 64
theorem okD.shaped {d : D} (h : okD d) : SeqAt.shaped (pyD d) = true := by
  unfold SeqAt.shaped
  rw [Bool.and_eq_true]
  exact ⟨lay_py d h.1, decide_eq_true (by rw [depth_py]; exact h.2)⟩
@[simp] def rCmpG (f : Bool → Bool) (a b : D) (G : GH) (Q : DK) : Prop := okD a ∧ okD b ∧ Q (.bl (f (eqvD a b))) G
@[simp] def rCmp (f : Bool → Bool) : DR2 := fun x y G Q => match vw G x with
  | .str a => (match vw G y with
    | .str b => Q (.bl (f (decide (a = b)))) G
    | b => rCmpG f (.str a) b G Q)
  | .int a => (match vw G y with
    | .int b => Q (.bl (f (decide (a = b)))) G
    | b => rCmpG f (.int a) b G Q)
  | a => rCmpG f a (vw G y) G Q
abbrev rEqv : DR2 := rCmp id
abbrev rNev : DR2 := rCmp not
section
variable {X : Cx}
theorem rCmp_gen {f : Bool → Bool} {x y : D} {G : GH} {Q : DK} (h : rCmp f x y G Q) : (∃ a b, x = .str a ∧ y = .str b ∧ Q (.bl (f (decide (a = b)))) G) ∨ (∃ a b, x = .int a ∧ y = .int b ∧ Q (.bl (f (decide (a = b)))) G) ∨ rCmpG f (vw G x) (vw G y) G Q := by
  have hv : ∀ (d : D) (s : Str), vw G d = .str s → d = .str s := fun d s e => by
    cases d with
    | ref a => dsimp only [vw] at e; split at e <;> cases e
    | _ => exact e
  have hi : ∀ (d : D) (s : Int), vw G d = .int s → d = .int s := fun d s e => by
    cases d with
    | ref a => dsimp only [vw] at e; split at e <;> cases e
    | _ => exact e
  dsimp only [rCmp] at h
  cases e1 : vw G x with
  | str a =>
    rw [e1] at h
    cases e2 : vw G y with
    | str b => rw [e2] at h; exact .inl ⟨a, b, hv _ _ e1, hv _ _ e2, h⟩
    | _ => rw [e2] at h; exact .inr (.inr h)
  | int a =>
    rw [e1] at h
    cases e2 : vw G y with
    | int b => rw [e2] at h; exact .inr (.inl ⟨a, b, hi _ _ e1, hi _ _ e2, h⟩)
    | _ => rw [e2] at h; exact .inr (.inr h)
  | _ => rw [e1] at h; exact .inr (.inr h)
theorem o_eq (hu : X.A.units + 64 < cLine) : DOp X (compareOp .Eq) rEqv := by
  intro pins s σ H x y v u Q I rx ry ⟨G, dx, dy, q, g, r1, r2, h, k⟩
  rcases rCmp_gen h with ⟨a, b, rfl, rfl, h⟩ | ⟨a, b, rfl, rfl, h⟩ | ⟨h1, h2, h3⟩
  · cases rv_str r1; cases rv_str r2
    refine op_eq pins s σ H _ _ v u Q I rx ry ⟨rfl, k _ _ H G (Ext.refl G H) g ?_ h⟩
    rw [show decide (V.str a = V.str b) = decide (a = b) by simp]
    exact bl_rv
  · cases rv_int r1; cases rv_int r2
    refine op_eq pins s σ H _ _ v u Q I rx ry ⟨rfl, k _ _ H G (Ext.refl G H) g ?_ h⟩
    rw [show decide (V.int a = V.int b) = decide (a = b) by simp]
    exact bl_rv
  · refine op_eqD hu pins s σ H _ _ v u Q I rx ry ⟨_, _, vw_dp g r1 h1.1, vw_dp g r2 h2.1, h1.shaped, h2.shaped, k _ _ H G (Ext.refl G H) g ?_ h3⟩
    rw [eqv_py _ _ h1.1 h2.1]
    exact bl_rv
theorem o_ne (hu : X.A.units + 64 < cLine) : DOp X (compareOp .NotEq) rNev := by
  intro pins s σ H x y v u Q I rx ry ⟨G, dx, dy, q, g, r1, r2, h, k⟩
  rcases rCmp_gen h with ⟨a, b, rfl, rfl, h⟩ | ⟨a, b, rfl, rfl, h⟩ | ⟨h1, h2, h3⟩
  · cases rv_str r1; cases rv_str r2
    refine op_ne pins s σ H _ _ v u Q I rx ry ⟨rfl, k _ _ H G (Ext.refl G H) g ?_ h⟩
    rw [show decide (V.str a = V.str b) = decide (a = b) by simp]
    exact bl_rv
  · cases rv_int r1; cases rv_int r2
    refine op_ne pins s σ H _ _ v u Q I rx ry ⟨rfl, k _ _ H G (Ext.refl G H) g ?_ h⟩
    rw [show decide (V.int a = V.int b) = decide (a = b) by simp]
    exact bl_rv
  · refine op_neD hu pins s σ H _ _ v u Q I rx ry ⟨_, _, vw_dp g r1 h1.1, vw_dp g r2 h2.1, h1.shaped, h2.shaped, k _ _ H G (Ext.refl G H) g ?_ h3⟩
    rw [eqv_py _ _ h1.1 h2.1]
    exact bl_rv
end
end Dl

namespace Dl
open PySem L2

def flatD : D → Bool
  | .non => true
  | .bl _ => true
  | .int _ => true
  | .str _ => true
  | _ => false
theorem flat_rep {K : PySem.W.Frag} {G : GH} {H : Hp} {d : D} {v : V} (h : flatD d = true) (r : RepV K G H d v) : flatV v = true ∧ ∀ (e : D) (w : V), flatD e = true → RepV K G H e w → eqV w v = eqvD e d := by
  have key : ∀ (e : D) (w : V), flatD e = true → RepV K G H e w → (e = .non ∧ w = .non) ∨ (∃ b, e = .bl b ∧ w = .bl b) ∨ (∃ i, e = .int i ∧ w = .int i) ∨ ∃ x, e = .str x ∧ w = .str x := by
    intro e w he re
    cases e with
    | non => exact .inl ⟨rfl, rv_non re⟩
    | bl b => exact .inr (.inl ⟨b, rfl, rv_bl re⟩)
    | int b => exact .inr (.inr (.inl ⟨b, rfl, rv_int re⟩))
    | str b => exact .inr (.inr (.inr ⟨b, rfl, rv_str re⟩))
    | _ => simp [flatD] at he
  rcases key d v h r with ⟨rfl, rfl⟩ | ⟨b, rfl, rfl⟩ | ⟨b, rfl, rfl⟩ | ⟨b, rfl, rfl⟩ <;> refine ⟨rfl, fun e w he re => ?_⟩ <;>
    rcases key e w he re with ⟨rfl, rfl⟩ | ⟨c, rfl, rfl⟩ | ⟨c, rfl, rfl⟩ | ⟨c, rfl, rfl⟩ <;> simp [eqV, eqvD]
def inD (x : D) (ds : List D) : Bool := ds.any fun y => eqvD y x
@[simp] def rInn (f : Bool → Bool) : DR2 := fun x y G Q => match sqOf G y with
  | some ds => flatD x = true ∧ ds.all flatD = true ∧ Q (.bl (f (inD x ds))) G
  | none => False
theorem flats_rep {K : PySem.W.Frag} {G : GH} {H : Hp} {d : D} {v : V} (h : flatD d = true) (r : RepV K G H d v) : ∀ {ds : List D} {xs : List V}, RepL K G H ds xs → ds.all flatD = true → xs.all flatV = true ∧ inV v xs = inD d ds
  | [], xs, rl, _ => by unfold RepL at rl; subst rl; exact ⟨rfl, rfl⟩
  | e :: ds, xs, rl, ha => by
    unfold RepL at rl
    obtain ⟨x, t, rfl, h1, h2⟩ := rl
    simp only [List.all_cons, Bool.and_eq_true] at ha
    obtain ⟨i1, i2⟩ := flats_rep h r h2 ha.2
    obtain ⟨f1, _⟩ := flat_rep ha.1 h1
    have f2 := (flat_rep h r).2 e x ha.1 h1
    refine ⟨by simp [f1, i1], ?_⟩
    unfold inV inD at i2 ⊢
    simp only [List.any_cons]
    rw [f2, i2]
section
variable {X : Cx}
theorem o_in : DOp X (compareOp .In) (rInn id) := by
  intro pins s σ H x y v u Q I rx ry ⟨G, dx, dy, q, g, r1, r2, h, k⟩
  dsimp only [rInn] at h
  cases e : sqOf G dy with
  | none => rw [e] at h; exact h.elim
  | some ds =>
    rw [e] at h
    obtain ⟨a, xs, rfl, hs, rl⟩ := sq_at g r2 e
    obtain ⟨h1, h2, h3⟩ := h
    obtain ⟨f1, f2⟩ := flats_rep h1 r1 rl h2
    refine op_in_seq pins s σ H _ _ v u Q I rx ry ⟨a, xs, rfl, hs, (flat_rep h1 r1).1, f1, k _ _ H G (Ext.refl G H) g ?_ h3⟩
    rw [f2]
    exact bl_rv
end
@[simp] def isNonD : D → Bool
  | .non => true
  | _ => false
@[simp] def rIsN (f : Bool → Bool) : DR2 := fun x y G Q => match y with
  | .non => Q (.bl (f (isNonD x))) G
  | _ => False
theorem non_dec {K : PySem.W.Frag} {G : GH} {H : Hp} {d : D} {v : V} (r : RepV K G H d v) : decide (v = .non) = isNonD d := by
  cases d <;> unfold RepV at r
  · subst r; rfl
  · subst r; rfl
  · subst r; rfl
  · subst r; rfl
  · subst r; rfl
  · obtain ⟨a, xs, rfl, _⟩ := r; rfl
  · obtain ⟨a, xs, rfl, _⟩ := r; rfl
  · subst r; rfl
  · obtain ⟨a, rfl, _⟩ := r; rfl
  · obtain ⟨a, c, rfl, _⟩ := r; rfl
  · obtain ⟨a, rfl, _⟩ := r; rfl
section
variable {X : Cx}
theorem o_isN : DOp X (compareOp .Is) (rIsN id) := by
  intro pins s σ H x y v u Q I rx ry ⟨G, dx, dy, q, g, r1, r2, h, k⟩
  cases dy with
  | non =>
    cases rv_non r2
    refine op_isN pins s σ H _ _ v u Q I rx ry ⟨rfl, k _ _ H G (Ext.refl G H) g ?_ h⟩
    rw [non_dec r1]
    exact bl_rv
  | _ => exact h.elim
theorem o_notN : DOp X (compareOp .IsNot) (rIsN not) := by
  intro pins s σ H x y v u Q I rx ry ⟨G, dx, dy, q, g, r1, r2, h, k⟩
  cases dy with
  | non =>
    cases rv_non r2
    refine op_notN pins s σ H _ _ v u Q I rx ry ⟨rfl, k _ _ H G (Ext.refl G H) g ?_ h⟩
    rw [non_dec r1]
    exact bl_rv
  | _ => exact h.elim
end

theorem atI_rep {K : PySem.W.Frag} {G : GH} {H : Hp} {ds : List D} {xs : List V} {i : Int} {d : D} (rl : RepL K G H ds xs) (h : atI ds i = some d) : ∃ v, atI xs i = some v ∧ RepV K G H d v := by
  unfold atI at h ⊢
  rw [rl.length]
  cases e : ixN ds.length i with
  | none => rw [e] at h; cases h
  | some j =>
    rw [e] at h
    exact rl.get h
@[simp] def rIx : DR2 := fun x y G Q => match y with
  | .int i => (match sqOf G x with
    | some ds => (match atI ds i with
      | some d => Q d G
      | none => False)
    | none => False)
  | _ => False
section
variable {X : Cx}
theorem x_ix : IxR X (upR X.K rIx) := by
  intro ve sx pins s σ H x y v u Q I rx ry ⟨G, dx, dy, q, g, r1, r2, h, k⟩ hsub
  cases dy with
  | int i =>
    cases rv_int r2
    dsimp only [rIx] at h
    cases e : sqOf G dx with
    | none => rw [e] at h; exact h.elim
    | some ds =>
      rw [e] at h
      dsimp only at h
      obtain ⟨a, xs, rfl, hs, rl⟩ := sq_at g r1 e
      cases e2 : atI ds i with
      | none => rw [e2] at h; exact h.elim
      | some d =>
        rw [e2] at h
        obtain ⟨w, hw, rw'⟩ := atI_rep rl e2
        refine (ix_list.or ix_tup) ve sx pins s σ H _ _ v u Q I rx ry ?_ hsub
        rcases hs with hs | hs
        · exact .inl ⟨a, xs, i, w, rfl, rfl, hs, hw, k _ _ H G (Ext.refl G H) g rw' h⟩
        · exact .inr ⟨a, xs, i, w, rfl, rfl, hs, hw, k _ _ H G (Ext.refl G H) g rw' h⟩
  | _ => exact h.elim
theorem de_ix {a b : Expr} {ta tb : DTE} {pos : Pos} (ha : DE X a ta) (hb : DE X b tb) (hs : PlainIx b := by exact fun _ _ => rfl) : DE X (.Subscript a b pos) (dOp rIx ta tb) := (pe_ix x_ix ha hb hs).imp fun _ _ _ h => up_op h

end
@[simp] def keyD : D → Option Key
  | .int i => some (.inl i)
  | .str x => some (.inr x)
  | _ => none
def getK : List (Key × D) → Key → Option D
  | [], _ => none
  | p :: r, k => if p.1 = k then some p.2 else getK r k
def putD (kvs : List (Key × D)) (k : Key) (d : D) : List (Key × D) :=
  if (kvs.any fun kv => decide (kv.1 = k)) = true then kvs.map (fun kv => if kv.1 = k then (kv.1, d) else kv) else kvs ++ [(k, d)]
theorem key_rep {K : PySem.W.Frag} {G : GH} {H : Hp} {d : D} {v : V} {k : Key} (r : RepV K G H d v) (h : keyD d = some k) : v = kV k := by
  cases d with
  | int i => simp only [keyD, Option.some.injEq] at h; subst h; exact rv_int r
  | str i => simp only [keyD, Option.some.injEq] at h; subst h; exact rv_str r
  | _ => simp [keyD] at h
theorem getK_rep {K : PySem.W.Frag} {G : GH} {H : Hp} {k : Key} : ∀ {kvs : List (Key × D)} {ws : List (Key × V)}, ws.map (·.1) = kvs.map (·.1) → RepL K G H (kvs.map (·.2)) (ws.map (·.2)) → match getK kvs k with
    | some d => ∃ v, valV ws k = some v ∧ RepV K G H d v
    | none => valV ws k = none
  | [], [], _, _ => rfl
  | [], _ :: _, e, _ => by simp at e
  | _ :: _, [], e, _ => by simp at e
  | p :: kvs, q :: ws, e, rl => by
    simp only [List.map_cons, List.cons.injEq] at e
    simp only [List.map_cons] at rl
    unfold RepL at rl
    obtain ⟨x, r, e2, h1, h2⟩ := rl
    simp only [List.cons.injEq] at e2
    obtain ⟨e3, e4⟩ := e2
    subst e3
    rw [← e4] at h2
    have ih := getK_rep (k := k) e.2 h2
    unfold getK
    by_cases hk : p.1 = k
    · rw [if_pos hk]
      exact ⟨q.2, valV_pos (e.1.trans hk), h1⟩
    · rw [if_neg hk]
      cases q2 : getK kvs k with
      | none => rw [q2] at ih; exact (valV_neg (fun z => hk (e.1.symm.trans z))).trans ih
      | some d =>
        rw [q2] at ih
        obtain ⟨v, i1, i2⟩ := ih
        exact ⟨v, (valV_neg (fun z => hk (e.1.symm.trans z))).trans i1, i2⟩
theorem putD_rep {K : PySem.W.Frag} {G : GH} {H : Hp} {k : Key} {d : D} {v : V} (rv : RepV K G H d v) {kvs : List (Key × D)} {ws : List (Key × V)} (e : ws.map (·.1) = kvs.map (·.1)) (rl : RepL K G H (kvs.map (·.2)) (ws.map (·.2))) :
    (putK ws k v).map (·.1) = (putD kvs k d).map (·.1) ∧ RepL K G H ((putD kvs k d).map (·.2)) ((putK ws k v).map (·.2)) := by
  have hany : (ws.any fun kv => decide (kv.1 = k)) = kvs.any fun kv => decide (kv.1 = k) := by
    have : ∀ (l : List (Key × V)), (l.any fun kv => decide (kv.1 = k)) = (l.map (·.1)).any fun z => decide (z = k) := fun l => by simp [List.any_map, Function.comp_def]
    have h2 : ∀ (l : List (Key × D)), (l.any fun kv => decide (kv.1 = k)) = (l.map (·.1)).any fun z => decide (z = k) := fun l => by simp [List.any_map, Function.comp_def]
    rw [this, h2, e]
  unfold putK putD
  rw [hany]
  by_cases ha : (kvs.any fun kv => decide (kv.1 = k)) = true
  · rw [if_pos ha, if_pos ha]
    clear hany ha
    induction kvs generalizing ws with
    | nil =>
      cases ws with
      | nil => exact ⟨rfl, repL_nil⟩
      | cons q ws => simp at e
    | cons p kvs ih =>
      cases ws with
      | nil => simp at e
      | cons q ws =>
        simp only [List.map_cons, List.cons.injEq] at e
        simp only [List.map_cons] at rl
        unfold RepL at rl
        obtain ⟨x, r, e2, h1, h2⟩ := rl
        simp only [List.cons.injEq] at e2
        obtain ⟨e3, e4⟩ := e2
        subst e3
        rw [← e4] at h2
        obtain ⟨i1, i2⟩ := ih e.2 h2
        simp only [List.map_cons]
        by_cases hk : p.1 = k
        · rw [if_pos hk, if_pos (e.1.trans hk)]
          exact ⟨by rw [i1, e.1], repL_cons rv i2⟩
        · rw [if_neg hk, if_neg (fun z => hk (e.1.symm.trans z))]
          exact ⟨by rw [i1, e.1], repL_cons h1 i2⟩
  · rw [if_neg ha, if_neg ha]
    simp only [List.map_append, List.map_cons, List.map_nil]
    exact ⟨by rw [e], rl.append (repL_one rv)⟩
@[simp] def dctP (G : GH) (x : D) (P : Addr → List (Key × D) → Prop) : Prop := match x with
  | .ref a => (match G a with
    | some (.dct kvs) => P a kvs
    | _ => False)
  | _ => False
@[simp] def keyP (y : D) (P : Key → Prop) : Prop := match keyD y with
  | some k => P k
  | none => False
@[simp] def dDGet (td ty : DTE) : DTE := fun ρ G Q => td ρ G fun x G1 => ty ρ G1 fun y G2 => dctP G2 x fun _ kvs => keyP y fun k => match getK kvs k with
  | some d => Q d G2
  | none => False
@[simp] def sDct : DSet := fun o i d G Q => dctP G o fun a kvs => keyP i fun k => kvs.length < sizeLine ∧ Q (updG G a (.dct (putD kvs k d)))
theorem keyP_of {y : D} {P : Key → Prop} (h : keyP y P) : ∃ k, keyD y = some k ∧ P k := by
  unfold keyP at h
  split at h
  · exact ⟨_, by assumption, h⟩
  · exact h.elim
theorem dct_of {K : PySem.W.Frag} {G : GH} {H : Hp} {x : D} {v : V} {P : Addr → List (Key × D) → Prop} (g : GOk K G H) (r : RepV K G H x v) (h : dctP G x P) :
    ∃ a kvs ws, x = .ref a ∧ v = .ref a ∧ G a = some (.dct kvs) ∧ P a kvs ∧ H a = some (.dK ws) ∧ ws.map (·.1) = kvs.map (·.1) ∧ RepL K G H (kvs.map (·.2)) (ws.map (·.2)) := by
  cases x with
  | ref a =>
    dsimp only [dctP] at h
    cases q : G a with
    | none => rw [q] at h; exact h.elim
    | some o =>
      rw [q] at h
      cases o with
      | dct kvs =>
        obtain ⟨ws, h1, h2, h3⟩ := g a _ q
        exact ⟨a, kvs, ws, rfl, rv_ref r, q, h, h1, h2, h3⟩
      | _ => exact h.elim
  | _ => exact h.elim
section
variable {X : Cx}
theorem de_dget {o i : Expr} {td ty : DTE} {pos : Pos} (hu : X.A.units + 1 < cLine) (ho : DE X o td) (hi : DE X i ty) (hs : NoSl i := by exact fun _ _ => rfl) : DE X (.Subscript o i pos) (dDGet td ty) := by
  refine (pe_dget hu ho hi hs).imp fun σ H Q ⟨ρ, G, q, r, h, k⟩ => ?_
  refine ⟨ρ, G, _, r, h, fun x dx H1 G1 e1 r1 v1 h1 => ?_⟩
  refine ⟨ρ, G1, _, r1, h1, fun y dy H2 G2 e2 r2 v2 h2 => ?_⟩
  obtain ⟨a, kvs, ws, rfl, rfl, hg, h2, w1, w2, w3⟩ := dct_of r2.gok (v1.ext e2) h2
  obtain ⟨kk, hk, h2⟩ := keyP_of h2
  cases key_rep v2 hk
  have gr := getK_rep (k := kk) w2 w3
  cases hd : getK kvs kk with
  | none => rw [hd] at h2; exact h2.elim
  | some d =>
    rw [hd] at h2 gr
    obtain ⟨w, e3, rw'⟩ := gr
    refine ⟨a, w, rfl, ?_, k w d H2 G2 (e1.trans e2) r2 rw' h2⟩
    rw [← e3]
    exact DGet.k w1
theorem set_dct (hu : X.A.units + 1 < cLine) : PSet X (upSet X.K sDct) := by
  intro pins s σ H o i v ov iv u Q I ro ri rv ⟨G, dO, di, d, q, g, r1, r2, r3, h, k⟩
  obtain ⟨a, kvs, ws, rfl, rfl, hg, h2, w1, w2, w3⟩ := dct_of g r1 h
  obtain ⟨kk, hk, h2⟩ := keyP_of h2
  cases key_rep r2 hk
  obtain rfl : ov = Value.ref a := ro
  have hl : ws.length = kvs.length := by simpa using congrArg List.length w2
  have e : Ext G H (updG G a (.dct (putD kvs kk d))) (upd H a (.dK (putK ws kk v))) := Ext.write hg
  obtain ⟨p1, p2⟩ := putD_rep (k := kk) r3 w2 w3
  refine d_setItem hu I (DPut.k (k := kk) w1 (by rw [hl]; exact h2.1)) ri rv fun s4 I4 => ⟨_, I4, ?_⟩
  exact k _ _ e (g.put e ⟨_, upd_same, p1, p2.ext e⟩) h2.2
end
@[simp] def lstP (G : GH) (x : D) (P : Addr → List D → Prop) : Prop := match x with
  | .ref a => (match G a with
    | some (.lst ds) => P a ds
    | _ => False)
  | _ => False
theorem lst_of {K : PySem.W.Frag} {G : GH} {H : Hp} {x : D} {v : V} {P : Addr → List D → Prop} (g : GOk K G H) (r : RepV K G H x v) (h : lstP G x P) : ∃ a ds xs, x = .ref a ∧ v = .ref a ∧ G a = some (.lst ds) ∧ P a ds ∧ H a = some (.lst xs) ∧ RepL K G H ds xs := by
  cases x with
  | ref a =>
    dsimp only [lstP] at h
    cases q : G a with
    | none => rw [q] at h; exact h.elim
    | some o =>
      rw [q] at h
      cases o with
      | lst ds =>
        obtain ⟨ws, h1, h2⟩ := g a _ q
        exact ⟨a, ds, ws, rfl, rv_ref r, q, h, h1, h2⟩
      | _ => exact h.elim
  | _ => exact h.elim
section
variable {X : Cx}
end
abbrev DTO := DSt → GH → (Option Int → GH → Prop) → Prop
def upO (K : PySem.W.Frag) (t : DTO) : TO := fun σ H Qv => ∃ ρ G Q, DRel K σ H ρ G ∧ t ρ G Q ∧ ∀ o H' G', Ext G H G' H' → DRel K σ H' ρ G' → Q o G' → Qv o H'
abbrev DO' (X : Cx) (e : Option Expr) (t : DTO) : Prop := PO X e (upO X.K t)
@[simp] def dNoP : DTO := fun _ G Q => Q none G
@[simp] def dP (t : DTE) : DTO := fun ρ G Q => t ρ G fun d G1 => match d with
  | .int i => Q (some i) G1
  | _ => False
def cutD (xs : List D) (lo hi : Option Int) : List D := (xs.drop (HT.sIx xs.length 0 lo)).take (HT.sIx xs.length xs.length hi - HT.sIx xs.length 0 lo)
theorem cut_rep {K : PySem.W.Frag} {G : GH} {H : Hp} {ds : List D} {xs : List V} (rl : RepL K G H ds xs) (lo hi : Option Int) : RepL K G H (cutD ds lo hi) (cutV xs lo hi) := by
  unfold cutD cutV
  rw [rl.length]
  exact (rl.drop _).take _
@[simp] def rSl : D → Option Int → Option Int → GH → DK → Prop := fun x lo hi G Q => match x with
  | .tup ds => Q (.tup (cutD ds lo hi)) G
  | .scr ns => ∀ p, G p = none → Q (.ref p) (updG G p (.lst (cutD (ns.map D.int) lo hi)))
  | .lst ds => ∀ p, G p = none → Q (.ref p) (updG G p (.lst (cutD ds lo hi)))
  | .ref a => (match G a with
    | some (.lst ds) => ∀ p, G p = none → Q (.ref p) (updG G p (.lst (cutD ds lo hi)))
    | _ => False)
  | _ => False
def upSl (K : PySem.W.Frag) (r : D → Option Int → Option Int → GH → DK → Prop) : V → Option Int → Option Int → Hp → VK → Prop := fun x lo hi H Qv => ∃ (G : GH) (d : D) (Q : DK), GOk K G H ∧ RepV K G H d x ∧ r d lo hi G Q ∧ ∀ v d H' G', Ext G H G' H' → GOk K G' H' → RepV K G' H' d v → Q d G' → Qv v H'
@[simp] def dSl (te : DTE) (tl th : DTO) : DTE := fun ρ G Q => te ρ G fun x G1 => tl ρ G1 fun l G2 => th ρ G2 fun u G3 => rSl x l u G3 Q
section
variable {X : Cx}
theorem PO.imp {e : Option Expr} {t t' : TO} (h : PO X e t) (i : ∀ σ H Q, t' σ H Q → t σ H Q) : PO X e t' := ⟨fun pins s σ H Q I q => h.run pins s σ H Q I (i σ H Q q)⟩
theorem do_none : DO' X none dNoP := PO.imp po_none fun σ H Q ⟨ρ, G, q, r, h, k⟩ => k none H G (Ext.refl G H) r h
theorem do_some {e : Expr} {te : DTE} (h : DE X e te) : DO' X (some e) (dP te) := PO.imp (po_some h) fun σ H Q ⟨ρ, G, q, r, h, k⟩ => by
  refine ⟨ρ, G, _, r, h, fun x dx H1 G1 e1 r1 v1 h1 => ?_⟩
  cases dx with
  | int i => cases rv_int v1; exact ⟨i, rfl, k (some i) H1 G1 e1 r1 h1⟩
  | _ => exact h1.elim
theorem sl_all : SlR X (upSl X.K rSl) := by
  intro pins s σ H x v vl vu lo hi sl Q I rx hs pl pu ⟨G, d, q, g, r, h, k⟩
  have lcase : ∀ (a : Addr) (xs : List V) (ds : List D), x = .ref a → SqL X.K H a xs → RepL X.K G H ds xs → (∀ p, G p = none → q (.ref p) (updG G p (.lst (cutD ds lo hi)))) →
      ∃ T id, typeLookup (.type T) "__getitem__" = pure (some (.builtin id)) ∧ s.TypeIs v T ∧ wpAny (model X.prog X.w) X.A (getItem v (.ref sl)) (EP X pins σ Q) X.xe s := by
    intro a xs ds e hq rl hk
    refine sl_list pins s σ H x v vl vu lo hi sl Q I rx hs pl pu ⟨a, xs, e, hq, fun p hp => ?_⟩
    obtain ⟨e1, g1, v1⟩ := new_lst g hp (cut_rep rl lo hi)
    exact k _ _ _ _ e1 g1 v1 (hk p (g.fresh hp))
  cases d with
  | tup ds =>
    obtain ⟨a, xs, e, t, rl⟩ := tp_at r
    refine sl_tupA pins s σ H x v vl vu lo hi sl Q I rx hs pl pu ⟨a, xs, e, t, fun z => ?_, fun z p hp => ?_⟩
    · have e2 : cutD ds lo hi = ds := by
        unfold cutD
        rw [← rl.length, z.1, z.2]
        simp [rl.length]
      subst e
      refine k _ _ H G (Ext.refl G H) g ?_ h
      rw [e2]
      exact r
    · obtain ⟨e1, g1, v1⟩ := new_tup g hp (cut_rep rl lo hi)
      exact k _ _ _ _ e1 g1 v1 h
  | scr ns =>
    unfold RepV at r
    obtain ⟨a, e, t⟩ := r
    exact lcase a _ _ e t.sq repL_of_ints h
  | lst ds =>
    unfold RepV at r
    obtain ⟨a, xs, e, t, rl⟩ := r
    exact lcase a xs ds e t.sq rl h
  | ref a =>
    cases rv_ref r
    dsimp only [rSl] at h
    cases hg : G a with
    | none => rw [hg] at h; exact h.elim
    | some o =>
      rw [hg] at h
      cases o with
      | lst ds =>
        obtain ⟨xs, h1, h2⟩ := g a _ hg
        exact lcase a xs ds rfl (SqL.of h1) h2 h
      | _ => exact h.elim
  | _ => exact h.elim
theorem de_slice {e : Expr} {lo hi : Option Expr} {te : DTE} {tl th : DTO} {p2 pos : Pos} (he : DE X e te) (hl : DO' X lo tl) (hh : DO' X hi th) : DE X (.Subscript e (.Slice lo hi none p2) pos) (dSl te tl th) := by
  refine (pe_slice sl_all he hl hh).imp fun σ H Q ⟨ρ, G, q, r, h, k⟩ => ?_
  refine ⟨ρ, G, _, r, h, fun x dx H1 G1 e1 r1 v1 h1 => ?_⟩
  refine ⟨ρ, G1, _, r1, h1, fun l H2 G2 e2 r2 h2 => ?_⟩
  refine ⟨ρ, G2, _, r2, h2, fun u H3 G3 e3 r3 h3 => ?_⟩
  exact ⟨G3, dx, q, r3.gok, v1.ext (e2.trans e3), h3, fun v d H' G' e4 g4 v4 h4 => k v d H' G' (((e1.trans e2).trans e3).trans e4) (r3.ext e4 g4) v4 h4⟩
end
end Dl

namespace Dl
open PySem L2

abbrev DRC := List D → GH → DK → Prop
def upC (K : PySem.W.Frag) (r : DRC) : List V → Hp → VK → Prop := fun xs H Qv => ∃ (G : GH) (ds : List D) (Q : DK), GOk K G H ∧ RepL K G H ds xs ∧ r ds G Q ∧ ∀ v d H' G', Ext G H G' H' → GOk K G' H' → RepV K G' H' d v → Q d G' → Qv v H'
abbrev DCall (X : Cx) (f : Value) (r : DRC) : Prop := CallR X f (upC X.K r)
@[simp] def dCB (r : DRC) (t : DTA) : DTE := fun ρ G Q => t ρ G fun ds G1 => r ds G1 Q
theorem up_cb {K : PySem.W.Frag} {r : DRC} {t : DTA} {σ : St} {H : Hp} {Q : VK} (h : up K (dCB r t) σ H Q) : tCB (upC K r) (upA K t) σ H Q := by
  obtain ⟨ρ, G, q, r0, h, k⟩ := h
  refine ⟨ρ, G, _, r0, h, fun vs ds H1 G1 e1 r1 v1 h1 => ?_⟩
  exact ⟨G1, ds, q, r1.gok, v1, h1, fun v d H' G' e2 g2 v2 h2 => k v d H' G' (e1.trans e2) (r1.ext e2 g2) v2 h2⟩
section
variable {X : Cx} {x : Str} {p pos : Pos} {e : Expr} {es : List Expr} {t : DTA} {id T : String} {r : DRC}
theorem de_callB (hc : DCall X (.builtin id) r) (hg : Gl X x) (hm : X.mg x = none) (hv : bootBuiltins x = some (.builtin id)) (ha : DA X (e :: es) t) (hn : x ≠ "__name__" := by decide) (hdb : (x == ("__debug__" : Str)) = false := by decide)
    (he : starEach (e :: es) X.env = (false, eval e X.env) :: starEach es X.env := by rfl) (hpl : (backTo pos (starEach es X.env)).any (·.1) = false := by rfl) : DE X (.Call (.Name x p) (e :: es) [] pos) (dCB r t) := (pe_callB hc hg hm hv ha hn hdb he hpl).imp fun _ _ _ h => up_cb h
theorem de_callTy (hc : DCall X (.type T) r) (hg : Gl X x) (hm : X.mg x = none) (hv : bootBuiltins x = some (.type T)) (ha : DA X (e :: es) t) (hn : x ≠ "__name__" := by decide) (hdb : (x == ("__debug__" : Str)) = false := by decide)
    (he : starEach (e :: es) X.env = (false, eval e X.env) :: starEach es X.env := by rfl) (hpl : (backTo pos (starEach es X.env)).any (·.1) = false := by rfl) : DE X (.Call (.Name x p) (e :: es) [] pos) (dCB r t) := (pe_callTy hc hg hm hv ha hn hdb he hpl).imp fun _ _ _ h => up_cb h
end
theorem repL_1 {K : PySem.W.Frag} {G : GH} {H : Hp} {d : D} {xs : List V} (h : RepL K G H [d] xs) : ∃ x, xs = [x] ∧ RepV K G H d x := by
  unfold RepL at h
  obtain ⟨x, r, rfl, h1, h2⟩ := h
  unfold RepL at h2
  subst h2
  exact ⟨x, rfl, h1⟩
theorem repL_2 {K : PySem.W.Frag} {G : GH} {H : Hp} {d e : D} {xs : List V} (h : RepL K G H [d, e] xs) : ∃ x y, xs = [x, y] ∧ RepV K G H d x ∧ RepV K G H e y := by
  unfold RepL at h
  obtain ⟨x, r, rfl, h1, h2⟩ := h
  obtain ⟨y, rfl, h3⟩ := repL_1 h2
  exact ⟨x, y, rfl, h1, h3⟩
@[simp] def arg1 (ds : List D) (P : D → Prop) : Prop := match ds with
  | [d] => P d
  | _ => False
@[simp] def arg2 (ds : List D) (P : D → D → Prop) : Prop := match ds with
  | [d, e] => P d e
  | _ => False
theorem arg1_of {ds : List D} {P : D → Prop} (h : arg1 ds P) : ∃ d, ds = [d] ∧ P d := by
  match ds, h with
  | [d], h => exact ⟨d, rfl, h⟩
theorem arg2_of {ds : List D} {P : D → D → Prop} (h : arg2 ds P) : ∃ d e, ds = [d, e] ∧ P d e := by
  match ds, h with
  | [d, e], h => exact ⟨d, e, rfl, h⟩
@[simp] def rLen : DRC := fun ds G Q => arg1 ds fun x => match x with
  | .str z => z.length ≤ sizeLine ∧ Q (.int z.length) G
  | .tup l => Q (.int l.length) G
  | .lst l => Q (.int l.length) G
  | .ref a => (match G a with
    | some (.lst l) => Q (.int l.length) G
    | some (.dct l) => Q (.int l.length) G
    | _ => False)
  | _ => False
@[simp] def rIntC : DRC := fun ds G Q => arg1 ds fun x => match x with
  | .int i => Q (.int i) G
  | .bl b => Q (.int (if b then 1 else 0)) G
  | _ => False
@[simp] def rAbs : DRC := fun ds G Q => arg1 ds fun x => match x with
  | .int i => Q (.int (if i < 0 then -i else i)) G
  | _ => False
@[simp] def rMin2 : DRC := fun ds G Q => arg2 ds fun x y => match x with
  | .int i => (match y with
    | .int j => Q (.int (if j < i then j else i)) G
    | _ => False)
  | _ => False
def intsD : List D → Option (List Int)
  | [] => some []
  | .int i :: r => (intsD r).map (i :: ·)
  | _ :: _ => none
theorem intsD_of : ∀ {ds : List D} {ns : List Int}, intsD ds = some ns → ds = ns.map D.int
  | [], ns, h => by simp [intsD] at h; subst h; rfl
  | .int i :: r, ns, h => by
    simp only [intsD, Option.map_eq_some_iff] at h
    obtain ⟨ms, h1, rfl⟩ := h
    rw [intsD_of h1]
    rfl
  | .non :: _, _, h => by simp [intsD] at h
  | .bl _ :: _, _, h => by simp [intsD] at h
  | .str _ :: _, _, h => by simp [intsD] at h
  | .byt _ :: _, _, h => by simp [intsD] at h
  | .tup _ :: _, _, h => by simp [intsD] at h
  | .lst _ :: _, _, h => by simp [intsD] at h
  | .ref _ :: _, _, h => by simp [intsD] at h
  | .scr _ :: _, _, h => by simp [intsD] at h
theorem intsD_map : ∀ ns : List Int, intsD (ns.map D.int) = some ns
  | [] => rfl
  | n :: ns => by simp [intsD, intsD_map ns]
@[simp] def intsP (G : GH) (x : D) (P : List Int → Prop) : Prop := match lsOf G x with
  | some ds => (match intsD ds with
    | some ns => P ns
    | none => False)
  | none => False
theorem ints_of {K : PySem.W.Frag} {G : GH} {H : Hp} {x : D} {v : V} {P : List Int → Prop} (g : GOk K G H) (r : RepV K G H x v) (h : intsP G x P) : ∃ a ns, v = .ref a ∧ SqL K H a (ns.map V.int) ∧ P ns := by
  unfold intsP at h
  cases e : lsOf G x with
  | none => rw [e] at h; exact h.elim
  | some ds =>
    rw [e] at h
    dsimp only at h
    cases e2 : intsD ds with
    | none => rw [e2] at h; exact h.elim
    | some ns =>
      rw [e2] at h
      obtain ⟨a, xs, rfl, h1, rl⟩ := ls_at g r e
      rw [intsD_of e2] at rl
      have := repL_ints rl
      subst this
      exact ⟨a, ns, rfl, SqL.of h1, h⟩
@[simp] def rSumC : DRC := fun ds G Q => arg1 ds fun x => intsP G x fun ns => Q (.int ns.sum) G
@[simp] def rMaxC : DRC := fun ds G Q => arg1 ds fun x => intsP G x fun ns => 0 < ns.length ∧ ∀ m, m ∈ ns → (∀ y, y ∈ ns → y ≤ m) → Q (.int m) G
@[simp] def rMinC : DRC := fun ds G Q => arg1 ds fun x => intsP G x fun ns => 0 < ns.length ∧ ∀ m, m ∈ ns → (∀ y, y ∈ ns → m ≤ y) → Q (.int m) G
@[simp] def rTupC : DRC := fun ds G Q => arg1 ds fun x => match sqOf G x with
  | some l => Q (.tup l) G
  | none => False
@[simp] def rLstC : DRC := fun ds G Q => arg1 ds fun x => match sqOf G x with
  | some l => ∀ p, G p = none → Q (.ref p) (updG G p (.lst l))
  | none => False
section
variable {X : Cx}
theorem c_len : DCall X (.builtin "len") rLen := by
  intro pins s σ H xs us Q I r ⟨G, ds, q, g, rl, h0, k⟩
  obtain ⟨d, rfl, h⟩ := arg1_of h0
  obtain ⟨x, rfl, rx⟩ := repL_1 rl
  cases d with
  | str z => cases rv_str rx; exact call_len pins s σ H _ us Q I r ⟨_, z.length, rfl, ⟨h.1, rfl⟩, k _ _ H G (Ext.refl G H) g int_rv h.2⟩
  | tup l =>
    obtain ⟨a, ys, rfl, t, rl⟩ := tp_at rx
    exact call_len_seq pins s σ H _ us Q I r ⟨a, ys, rfl, .inr t, by rw [rl.length]; exact k _ _ H G (Ext.refl G H) g int_rv h⟩
  | lst l =>
    obtain ⟨a, ys, rfl, t, rl⟩ := ls_at g rx (ds := l) rfl
    exact call_len_seq pins s σ H _ us Q I r ⟨a, ys, rfl, .inl (SqL.of t), by rw [rl.length]; exact k _ _ H G (Ext.refl G H) g int_rv h⟩
  | ref a =>
    cases rv_ref rx
    dsimp only at h
    cases hg : G a with
    | none => rw [hg] at h; exact h.elim
    | some o =>
      rw [hg] at h
      cases o with
      | lst l =>
        obtain ⟨ys, h1, rl⟩ := g a _ hg
        exact call_len_seq pins s σ H _ us Q I r ⟨a, ys, rfl, .inl (SqL.of h1), by rw [rl.length]; exact k _ _ H G (Ext.refl G H) g int_rv h⟩
      | dct l =>
        obtain ⟨ws, h1, e1, rl⟩ := g a _ hg
        have hl : ws.length = l.length := by simpa using congrArg List.length e1
        refine call_lenD pins s σ H _ us Q I r ⟨a, ws, rfl, h1, ?_⟩
        rw [hl]
        exact k _ _ H G (Ext.refl G H) g int_rv h
      | raw _ => exact h.elim
      | ins _ _ => exact h.elim
      | dtp _ => exact h.elim
      | tab _ => exact h.elim
      | slt _ _ => exact h.elim
  | _ => exact h.elim
theorem c_int : DCall X (.type "int") rIntC := by
  intro pins s σ H xs us Q I r ⟨G, ds, q, g, rl, h0, k⟩
  obtain ⟨d, rfl, h⟩ := arg1_of h0
  obtain ⟨x, rfl, rx⟩ := repL_1 rl
  cases d with
  | int i => cases rv_int rx; exact call_int1 pins s σ H _ us Q I r (.inl ⟨i, rfl, k _ _ H G (Ext.refl G H) g int_rv h⟩)
  | bl b => cases rv_bl rx; exact call_int1 pins s σ H _ us Q I r (.inr ⟨b, rfl, k _ _ H G (Ext.refl G H) g int_rv h⟩)
  | _ => exact h.elim
theorem c_min2 (hc : X.calm = true) : DCall X (.builtin "min") rMin2 := by
  intro pins s σ H xs us Q I r ⟨G, ds, q, g, rl, h0, k⟩
  obtain ⟨d, e, rfl, h⟩ := arg2_of h0
  obtain ⟨x, y, rfl, rx, ry⟩ := repL_2 rl
  cases d with
  | int i =>
    cases e with
    | int j => cases rv_int rx; cases rv_int ry; exact call_min2 hc pins s σ H _ us Q I r ⟨i, j, rfl, k _ _ H G (Ext.refl G H) g int_rv h⟩
    | _ => exact h.elim
  | _ => exact h.elim
theorem c_sum (hc : X.calm = true) : DCall X (.builtin "sum") rSumC := by
  intro pins s σ H xs us Q I r ⟨G, ds, q, g, rl, h0, k⟩
  obtain ⟨d, rfl, h⟩ := arg1_of h0
  obtain ⟨x, rfl, rx⟩ := repL_1 rl
  obtain ⟨a, ns, rfl, hs, h⟩ := ints_of g rx h
  exact cr_sum hc pins s σ H _ us Q I r ⟨a, ns, rfl, hs, k _ _ H G (Ext.refl G H) g int_rv h⟩
theorem c_max (hc : X.calm = true) : DCall X (.builtin "max") rMaxC := by
  intro pins s σ H xs us Q I r ⟨G, ds, q, g, rl, h0, k⟩
  obtain ⟨d, rfl, h⟩ := arg1_of h0
  obtain ⟨x, rfl, rx⟩ := repL_1 rl
  obtain ⟨a, ns, rfl, hs, h⟩ := ints_of g rx h
  exact cr_max hc pins s σ H _ us Q I r ⟨a, ns, rfl, hs, h.1, fun m h1 h2 => k _ _ H G (Ext.refl G H) g int_rv (h.2 m h1 h2)⟩
theorem c_min (hc : X.calm = true) : DCall X (.builtin "min") rMinC := by
  intro pins s σ H xs us Q I r ⟨G, ds, q, g, rl, h0, k⟩
  obtain ⟨d, rfl, h⟩ := arg1_of h0
  obtain ⟨x, rfl, rx⟩ := repL_1 rl
  obtain ⟨a, ns, rfl, hs, h⟩ := ints_of g rx h
  exact cr_min hc pins s σ H _ us Q I r ⟨a, ns, rfl, hs, h.1, fun m h1 h2 => k _ _ H G (Ext.refl G H) g int_rv (h.2 m h1 h2)⟩
theorem c_tuple : DCall X (.type "tuple") rTupC := by
  intro pins s σ H xs us Q I r ⟨G, ds, q, g, rl, h0, k⟩
  obtain ⟨d, rfl, h⟩ := arg1_of h0
  obtain ⟨x, rfl, rx⟩ := repL_1 rl
  cases e : sqOf G d with
  | none => rw [e] at h; exact h.elim
  | some l =>
    rw [e] at h
    obtain ⟨a, ys, rfl, hs, rl⟩ := sq_at g rx e
    refine call_tuple_of pins s σ H _ us Q I r ⟨a, ys, rfl, ?_⟩
    rcases hs with hs | hs
    · refine .inl ⟨hs, fun p hp => ?_⟩
      obtain ⟨e1, g1, v1⟩ := new_tup g hp rl
      exact k _ _ _ _ e1 g1 v1 h
    · refine .inr ⟨hs, ?_⟩
      cases d with
      | tup l2 =>
        simp only [sqOf, Option.some.injEq] at e
        subst e
        exact k _ _ H G (Ext.refl G H) g rx h
      | lst l2 =>
        obtain ⟨a2, xs2, e2, h2, _⟩ := ls_at g rx (ds := l) e
        cases e2
        have z1 := (I.list (SqL.of h2))
        obtain ⟨its, _, ⟨o, n, ho, hc, _⟩, _⟩ := z1
        obtain ⟨its2, _, ⟨o2, ho2, hc2, _⟩, _⟩ := I.tuple hs
        rw [ho] at ho2
        cases ho2
        rw [hc] at hc2
        simp at hc2
      | ref a2 =>
        obtain ⟨a2, xs2, e2, h2, _⟩ := ls_at g rx (ds := l) e
        cases e2
        have z1 := (I.list (SqL.of h2))
        obtain ⟨its, _, ⟨o, n, ho, hc, _⟩, _⟩ := z1
        obtain ⟨its2, _, ⟨o2, ho2, hc2, _⟩, _⟩ := I.tuple hs
        rw [ho] at ho2
        cases ho2
        rw [hc] at hc2
        simp at hc2
      | _ => simp [sqOf] at e
theorem c_list : DCall X (.type "list") rLstC := by
  intro pins s σ H xs us Q I r ⟨G, ds, q, g, rl, h0, k⟩
  obtain ⟨d, rfl, h⟩ := arg1_of h0
  obtain ⟨x, rfl, rx⟩ := repL_1 rl
  cases e : sqOf G d with
  | none => rw [e] at h; exact h.elim
  | some l =>
    rw [e] at h
    obtain ⟨a, ys, rfl, hs, rl⟩ := sq_at g rx e
    refine call_list_of pins s σ H _ us Q I r ⟨a, ys, rfl, hs, fun p hp => ?_⟩
    obtain ⟨e1, g1, v1⟩ := new_lst g hp rl
    exact k _ _ _ _ e1 g1 v1 (h p (g.fresh hp))
end

section
open AutoSeq1
theorem ext_by_tuple (l : Addr) (items : Array Value) (n : Nat) (b : Addr) (more : Array Value) (n2 : Nat) (dd : Option Addr) (sl : Array (Option Value)) (hs0 : ¬(!items.isEmpty && Builtin.List.listTooLong (items.size + more.size)) = true) (hs1 : items.size ≤ sizeLine)
    (hs2 : items.size + more.size ≤ sizeLine + 1) :
    Meets (Builtin.«list.extend» ⟨[.ref l, .ref b], []⟩) (fun _ R s => s.heap.get? l = some { cls := .type "list", data := .seq items n } ∧ s.heap.get? b = some { cls := .type "tuple", dict := dd, data := .seq more n2, slots := sl } ∧
      R (.ok (.ret Value.none)) { s with heap := s.heap.update l (Obj.mapSeq fun x => x ++ more) }) :=
  .of_wp fun prog w A R st hh => by
    obtain ⟨hp, gg, dr, tk, os⟩ := st
    obtain ⟨hl, hb, hR⟩ := hh
    have f1 := idx_int
    have f2 := sub_tuple_tuple
    have f3 := sub_list_list
    have f4 := sub_tuple_list
    have f5 := sub_list_tuple
    have hz : (items ++ more).size ≤ sizeLine + 1 := by rw [Array.size_append]; exact hs2
    wp_walk using (wpAny_updateSeq hl rfl (hz := hs1) (_hz' := hz)), wpAny_loadPart' hl, wpAny_loadPart' hb
    exact ⟨_, rfl, hR⟩
end
abbrev DRM := D → List D → GH → DK → Prop
def upM (K : PySem.W.Frag) (r : DRM) : V → List V → Hp → VK → Prop := fun x xs H Qv => ∃ (G : GH) (d : D) (ds : List D) (Q : DK), GOk K G H ∧ RepV K G H d x ∧ RepL K G H ds xs ∧ r d ds G Q ∧ ∀ v d H' G', Ext G H G' H' → GOk K G' H' → RepV K G' H' d v → Q d G' → Qv v H'
@[simp] def dMt (r : DRM) (to : DTE) (t : DTA) : DTE := fun ρ G Q => to ρ G fun x G1 => lstP G1 x fun _ _ => t ρ G1 fun ds G2 => r x ds G2 Q
@[simp] def mAppend : DRM := fun x ds G Q => lstP G x fun a l => arg1 ds fun d => l.length < sizeLine ∧ Q .non (updG G a (.lst (l ++ [d])))
@[simp] def mExtend : DRM := fun x ds G Q => lstP G x fun a l => arg1 ds fun d => match sqOf G d with
  | some m => l.length + m.length ≤ sizeLine ∧ Q .non (updG G a (.lst (l ++ m)))
  | none => False
@[simp] def mPop : DRM := fun x ds G Q => lstP G x fun a l => match ds with
  | [] => (match l[l.length - 1]? with
    | some d => Q d (updG G a (.lst l.dropLast))
    | none => False)
  | _ => False
section
variable {X : Cx}
theorem m_append : MtR X "list.append" (upM X.K mAppend) := by
  intro pins s σ H x xs v us Q I rx rv ⟨G, d, ds, q, g, r1, r2, h, k⟩
  obtain ⟨a, l, ys, rfl, rfl, hg, h1, h2, rl⟩ := lst_of g r1 h
  obtain ⟨e, rfl, h3⟩ := arg1_of h1
  obtain ⟨y, rfl, ry⟩ := repL_1 r2
  refine mt_append pins s σ H _ _ v us Q I rx rv ⟨a, ys, y, rfl, rfl, h2, by rw [rl.length]; exact h3.1, ?_⟩
  obtain ⟨e1, g1⟩ := put_lst g hg (rl.append (repL_one ry))
  exact k _ _ _ _ e1 g1 non_rv h3.2
theorem m_pop : MtR X "list.pop" (upM X.K mPop) := by
  intro pins s σ H x xs v us Q I rx rv ⟨G, d, ds, q, g, r1, r2, h, k⟩
  obtain ⟨a, l, ys, rfl, rfl, hg, h1, h2, rl⟩ := lst_of g r1 h
  cases ds with
  | cons _ _ => exact h1.elim
  | nil =>
    unfold RepL at r2
    subst r2
    dsimp only at h1
    cases e : l[l.length - 1]? with
    | none => rw [e] at h1; exact h1.elim
    | some d =>
      rw [e] at h1
      obtain ⟨y, hy, ry⟩ := rl.get e
      refine mt_pop pins s σ H _ _ v us Q I rx rv ⟨a, ys, y, rfl, rfl, h2, by rw [rl.length]; exact hy, ?_⟩
      obtain ⟨e1, g1⟩ := put_lst g hg rl.dropLast
      exact k _ _ _ _ e1 g1 (ry.ext e1) h1
theorem m_extend : MtR X "list.extend" (upM X.K mExtend) := by
  intro pins s σ H x xs v us Q I rx rv ⟨G, d, ds, q, g, r1, r2, h, k⟩
  obtain ⟨a, l, ys, rfl, rfl, hg, h1, h2, rl⟩ := lst_of g r1 h
  obtain ⟨e, rfl, h3⟩ := arg1_of h1
  obtain ⟨y, rfl, ry⟩ := repL_1 r2
  cases e2 : sqOf G e with
  | none => rw [e2] at h3; exact h3.elim
  | some m =>
    rw [e2] at h3
    obtain ⟨b, zs, rfl, hs, rm⟩ := sq_at g ry e2
    obtain ⟨e1, g1⟩ := put_lst g hg (rl.append rm)
    have fin : Q .non (upd H a (.lst (ys ++ zs))) := k _ _ _ _ e1 g1 non_rv h3.2
    have hz : ys.length + zs.length ≤ sizeLine := by rw [rl.length, rm.length]; exact h3.1
    have hcase : (H b = some (.lst zs)) ∨ SqT X.K H b zs := by
      rcases hs with hs | hs
      · cases e with
        | tup l2 =>
          obtain ⟨a2, xs2, e3, h4, _⟩ := tp_at ry
          cases e3
          obtain ⟨its, _, ⟨o, n, ho, hc, _⟩, _⟩ := I.list hs
          obtain ⟨its2, _, ⟨o2, ho2, hc2, _⟩, _⟩ := I.tuple h4
          rw [ho] at ho2
          cases ho2
          rw [hc] at hc2
          simp at hc2
        | lst l2 =>
          obtain ⟨a2, xs2, e3, h4, _⟩ := ls_at g ry (ds := m) e2
          cases e3
          rw [I.list_inj hs (SqL.of h4)]
          exact .inl h4
        | ref l2 =>
          obtain ⟨a2, xs2, e3, h4, _⟩ := ls_at g ry (ds := m) e2
          cases e3
          rw [I.list_inj hs (SqL.of h4)]
          exact .inl h4
        | _ => simp [sqOf] at e2
      · exact .inr hs
    rcases hcase with hb | hb
    · exact mt_extend pins s σ H _ _ v us Q I rx rv ⟨a, b, ys, zs, rfl, rfl, h2, hb, hz, fin⟩
    · cases rx
      obtain ⟨u, rfl, ru⟩ := rv.one
      cases ru
      obtain ⟨z, its, n, r, hl, e⟩ := I.lstM h2
      obtain ⟨its2, r2', ⟨⟨cls, dd, data, sl⟩, ho, hcl, n2, hd⟩, hz2⟩ := I.tuple hb
      simp only at hcl hd
      subst hcl hd
      have hl2 := r2'.length
      have hsz : its.toArray.size + its2.toArray.size ≤ sizeLine := by rw [List.size_toArray, List.size_toArray]; omega
      have hlong : ¬ (!its.toArray.isEmpty && Builtin.List.listTooLong (its.toArray.size + its2.toArray.size)) = true := by
        rw [notLongL hsz, Bool.and_false]
        exact Bool.false_ne_true
      refine call_meets F.slot_list_extend ⟨_, e, rfl⟩ F.entry_list_extend (F.args_list_extend_2 _ _)
        (ext_by_tuple a its.toArray n b its2.toArray n2 dd sl hlong (by rw [List.size_toArray]; omega) (by omega)) ⟨e, ho, ?_⟩
      refine ⟨.non, _, I.lset (its' := its ++ its2) h2 e (by simp) (r.append r2') ?_, rfl, fin⟩
      rw [List.length_append]
      omega
variable {o e : Expr} {es : List Expr} {to : DTE} {t : DTA} {name : Str} {apos cpos : Pos} {id : String} {r : DRM}
theorem up_mt {K : PySem.W.Frag} {σ : St} {H : Hp} {Q : VK} (h : up K (dMt r to t) σ H Q) : tBM K "list" (upM K r) (up K to) (upA K t) σ H Q := by
  obtain ⟨ρ, G, q, r0, h, k⟩ := h
  refine ⟨ρ, G, _, r0, h, fun x dx H1 G1 e1 r1 v1 h1 => ?_⟩
  obtain ⟨a, l, ys, rfl, rfl, hg, h2, h3, rl⟩ := lst_of r1.gok v1 h1
  refine ⟨.inl ⟨rfl, ys, SqL.of h3⟩, ρ, G1, _, r1, h2, fun vs ds H2 G2 e2 r2 v2 h4 => ?_⟩
  exact ⟨G2, .ref a, ds, q, r2.gok, ref_rv, v2, h4, fun v d H' G' e3 g3 v3 h3 => k v d H' G' ((e1.trans e2).trans e3) (r2.ext e3 g3) v3 h3⟩
theorem de_mt (slot : Slot "list" name id) (hty : typeOf (.builtin id) = pure (.type "method_descriptor")) (hm : MtR X id (upM X.K r)) (ho : DE X o to) (ha : DA X (e :: es) t)
    (hbase : attributeBase o name X.env (eval o X.env) = eval o X.env := by rfl)
    (hfew : ((backTo cpos (starEach (e :: es) X.env)).all (fun x => !x.1) && (backToKw cpos (keywordEach [] X.env)).all (fun x => x.1.isSome)
      && decide ((e :: es).length + ([] : List Keyword).length + (if ([] : List Keyword).isEmpty then 0 else 1) < 30)) = true := by rfl)
    (hline : (apos.endLine == cpos.line) = true := by rfl) (hs : starEach (e :: es) X.env = (false, eval e X.env) :: starEach es X.env := by rfl) (hplain : (backTo cpos (starEach es X.env)).any (·.1) = false := by rfl) :
    DE X (.Call (.Attribute o name apos) (e :: es) [] cpos) (dMt r to t) := (pe_bm F.plainAttrs_list slot hty hm ho ha hbase hfew hline hs hplain).imp fun _ _ _ h => up_mt h
theorem de_mt0 (slot : Slot "list" name id) (hty : typeOf (.builtin id) = pure (.type "method_descriptor")) (hm : MtR X id (upM X.K r)) (ho : DE X o to)
    (hbase : attributeBase o name X.env (eval o X.env) = eval o X.env := by rfl) (hline : (apos.endLine == cpos.line) = true := by rfl) : DE X (.Call (.Attribute o name apos) [] [] cpos) (dMt r to dNil) :=
  (pe_bm0 F.plainAttrs_list slot hty hm ho hbase hline).imp fun σ H Q ⟨ρ, G, q, r0, h, k⟩ => by
    refine ⟨ρ, G, _, r0, h, fun x dx H1 G1 e1 r1 v1 h1 => ?_⟩
    obtain ⟨a, l, ys, rfl, rfl, hg, h2, h3, rl⟩ := lst_of r1.gok v1 h1
    refine ⟨.inl ⟨rfl, ys, SqL.of h3⟩, ?_⟩
    exact ⟨G1, .ref a, [], q, r1.gok, ref_rv, repL_nil, h2, fun v d H' G' e3 g3 v3 h3 => k v d H' G' (e1.trans e3) (r1.ext e3 g3) v3 h3⟩
theorem de_append {x : Expr} {tx : DTE} (ho : DE X o to) (ha : DE X x tx)
    (hbase : attributeBase o "append" X.env (eval o X.env) = eval o X.env := by rfl)
    (hfew : ((backTo cpos (starEach [x] X.env)).all (fun x => !x.1) && (backToKw cpos (keywordEach [] X.env)).all (fun x => x.1.isSome)
      && decide ([x].length + ([] : List Keyword).length + (if ([] : List Keyword).isEmpty then 0 else 1) < 30)) = true := by rfl)
    (hline : (apos.endLine == cpos.line) = true := by rfl) (hs : starEach [x] X.env = (false, eval x X.env) :: starEach [] X.env := by rfl) (hplain : (backTo cpos (starEach [] X.env)).any (·.1) = false := by rfl) :
    DE X (.Call (.Attribute o "append" apos) [x] [] cpos) (dMt mAppend to (dCons tx dNil)) := de_mt F.slot_list_append F.type_list_append m_append ho (da_cons ha da_nil hs) hbase hfew hline hs hplain
theorem de_extend {x : Expr} {tx : DTE} (ho : DE X o to) (ha : DE X x tx)
    (hbase : attributeBase o "extend" X.env (eval o X.env) = eval o X.env := by rfl)
    (hfew : ((backTo cpos (starEach [x] X.env)).all (fun x => !x.1) && (backToKw cpos (keywordEach [] X.env)).all (fun x => x.1.isSome)
      && decide ([x].length + ([] : List Keyword).length + (if ([] : List Keyword).isEmpty then 0 else 1) < 30)) = true := by rfl)
    (hline : (apos.endLine == cpos.line) = true := by rfl) (hs : starEach [x] X.env = (false, eval x X.env) :: starEach [] X.env := by rfl) (hplain : (backTo cpos (starEach [] X.env)).any (·.1) = false := by rfl) :
    DE X (.Call (.Attribute o "extend" apos) [x] [] cpos) (dMt mExtend to (dCons tx dNil)) := de_mt F.slot_list_extend F.type_list_extend m_extend ho (da_cons ha da_nil hs) hbase hfew hline hs hplain
theorem de_pop (ho : DE X o to)
    (hbase : attributeBase o "pop" X.env (eval o X.env) = eval o X.env := by rfl) (hline : (apos.endLine == cpos.line) = true := by rfl) : DE X (.Call (.Attribute o "pop" apos) [] [] cpos) (dMt mPop to dNil) :=
  de_mt0 F.slot_list_pop F.type_list_pop m_pop ho hbase hline
end
end Dl

namespace Dl
open PySem L2

@[simp] def dStar (te : DTE) (tr : DTA) : DTA := fun ρ G Q => te ρ G fun x G1 => match sqOf G1 x with
  | some ds => tr ρ G1 fun xs G2 => Q (ds ++ xs) G2
  | none => False
section
variable {X : Cx}
theorem da_star {e : Expr} {es : List Expr} {te : DTE} {t : DTA} {p : Pos} (he : DE X e te) (hr : DA X es t) (hs : starEach (.Starred e p :: es) X.env = (true, eval e X.env) :: starEach es X.env := by rfl) : DA X (.Starred e p :: es) (dStar te t) := by
  refine (StX.pa_star he hr hs).imp fun σ H Q ⟨ρ, G, q, r, h, k⟩ => ?_
  refine ⟨ρ, G, _, r, h, fun v d H1 G1 e1 r1 v1 h1 => ?_⟩
  cases e2 : sqOf G1 d with
  | none => rw [e2] at h1; exact h1.elim
  | some ds =>
    rw [e2] at h1
    obtain ⟨a, xs, rfl, hs, rl⟩ := sq_at r1.gok v1 e2
    refine ⟨a, xs, rfl, hs.symm, ρ, G1, _, r1, h1, fun vs es H2 G2 e3 r2 v2 h2 => ?_⟩
    exact k _ _ H2 G2 (e1.trans e3) r2 ((rl.ext e3).append v2) h2

end
@[simp] def truP (G : GH) (d : D) (P : Bool → Prop) : Prop := match d with
  | .non => P false
  | .bl b => P b
  | .int i => P (i != 0)
  | .str x => x.length ≤ sizeLine ∧ P ((x.length : Int) != 0)
  | .tup l => P (!l.isEmpty)
  | .lst l => P (!l.isEmpty)
  | .ref a => (match G a with
    | some (.lst l) => P (!l.isEmpty)
    | some (.dct l) => P (!l.isEmpty)
    | _ => False)
  | _ => False
@[simp] def dTru (te : DTE) : DTT := fun ρ G Q => te ρ G fun d G1 => truP G1 d fun b => Q b G1
theorem isEmpty_len {α β : Type} {xs : List α} {ys : List β} (h : xs.length = ys.length) : xs.isEmpty = ys.isEmpty := by
  cases xs <;> cases ys <;> simp_all
theorem tru_of {K : PySem.W.Frag} {G : GH} {H : Hp} {d : D} {v : V} {P : Bool → Prop} (g : GOk K G H) (r : RepV K G H d v) (h : truP G d P) : ∃ b, TruV K v H b ∧ P b := by
  cases d with
  | non => cases rv_non r; exact ⟨false, rfl, h⟩
  | bl b => cases rv_bl r; exact ⟨b, rfl, h⟩
  | int i => cases rv_int r; exact ⟨_, rfl, h⟩
  | str x => cases rv_str r; exact ⟨_, ⟨h.1, rfl⟩, h.2⟩
  | tup l =>
    obtain ⟨a, xs, rfl, t, rl⟩ := tp_at r
    exact ⟨_, .inr (.inl ⟨xs, t, rfl⟩), by rw [isEmpty_len rl.length]; exact h⟩
  | lst l =>
    obtain ⟨a, xs, rfl, t, rl⟩ := ls_at g r (ds := l) rfl
    exact ⟨_, .inl ⟨xs, SqL.of t, rfl⟩, by rw [isEmpty_len rl.length]; exact h⟩
  | ref a =>
    cases rv_ref r
    dsimp only [truP] at h
    cases hg : G a with
    | none => rw [hg] at h; exact h.elim
    | some o =>
      rw [hg] at h
      cases o with
      | lst l =>
        obtain ⟨xs, h1, rl⟩ := g a _ hg
        exact ⟨_, .inl ⟨xs, SqL.of h1, rfl⟩, by rw [isEmpty_len rl.length]; exact h⟩
      | dct l =>
        obtain ⟨ws, h1, e1, rl⟩ := g a _ hg
        have hl : ws.length = l.length := by simpa using congrArg List.length e1
        exact ⟨_, .inr (.inr ⟨ws, h1, rfl⟩), by rw [isEmpty_len hl]; exact h⟩
      | raw _ => exact h.elim
      | ins _ _ => exact h.elim
      | dtp _ => exact h.elim
      | tab _ => exact h.elim
      | slt _ _ => exact h.elim
  | _ => exact h.elim
section
variable {X : Cx}
theorem dt_tru {e : Expr} {te : DTE} (h : DE X e te) (he : ∀ whole, isTrue e X.env whole = (do let v ← whole; standAt e.pos; holding [v] (truthy v)) := by intro _; rfl) : DT X e (dTru te) := by
  refine (pt_truth h he).imp fun σ H Q ⟨ρ, G, q, r, h, k⟩ => ?_
  refine ⟨ρ, G, _, r, h, fun v d H1 G1 e1 r1 v1 h1 => ?_⟩
  obtain ⟨b, hb, h2⟩ := tru_of r1.gok v1 h1
  exact ⟨b, hb, k b H1 G1 e1 r1 h2⟩

end
@[simp] def tyD (G : GH) : D → Option String
  | .non => some "NoneType"
  | .bl _ => some "bool"
  | .int _ => some "int"
  | .str _ => some "str"
  | .byt _ => some "bytes"
  | .tup _ => some "tuple"
  | .lst _ => some "list"
  | .ref a => (match G a with
    | some (.lst _) => some "list"
    | some (.dct _) => some "dict"
    | _ => none)
  | .scr _ => none
  | .fn _ _ _ _ => none
  | .exh _ _ _ _ _ => none
@[simp] def subT (a b : String) : Bool := (a == b) || (a == "bool" && b == "int")
@[simp] def dIsi (T : String) (te : DTE) : DTE := fun ρ G Q => te ρ G fun d G1 => match tyD G1 d with
  | some t => Q (.bl (subT t T)) G1
  | none => False
def isiTypes : List String := ["NoneType", "bool", "int", "str", "bytes", "tuple", "list", "dict"]
theorem isi_tab : ∀ a ∈ isiTypes, ∀ b ∈ ["int", "bool", "str", "tuple", "list"], kitB a b = some (subT a b) := by decide +kernel
theorem ty_of {K : PySem.W.Frag} {G : GH} {H : Hp} {d : D} {v : V} {t : String} (g : GOk K G H) (r : RepV K G H d v) (h : tyD G d = some t) : TyX K H v (.type t) ∧ t ∈ isiTypes := by
  cases d with
  | non => cases rv_non r; simp only [tyD, Option.some.injEq] at h; subst h; exact ⟨.base .non, by decide⟩
  | bl b => cases rv_bl r; simp only [tyD, Option.some.injEq] at h; subst h; exact ⟨.base (.bl b), by decide⟩
  | int b => cases rv_int r; simp only [tyD, Option.some.injEq] at h; subst h; exact ⟨.base (.int b), by decide⟩
  | str b => cases rv_str r; simp only [tyD, Option.some.injEq] at h; subst h; exact ⟨.base (.str b), by decide⟩
  | byt b => unfold RepV at r; subst r; simp only [tyD, Option.some.injEq] at h; subst h; exact ⟨.byt b, by decide⟩
  | tup l =>
    unfold RepV at r
    obtain ⟨a, xs, rfl, t, rl⟩ := r
    simp only [tyD, Option.some.injEq] at h
    subst h
    refine ⟨?_, by decide⟩
    rcases t with ⟨_, t⟩ | ⟨_, o, its, n, hk, hc, _⟩
    · exact .base (.tup t)
    · exact .kTuple hk hc
  | lst l =>
    unfold RepV at r
    obtain ⟨a, xs, rfl, t, rl⟩ := r
    simp only [tyD, Option.some.injEq] at h
    subst h
    exact ⟨.base (.lst t.2), by decide⟩
  | ref a =>
    cases rv_ref r
    dsimp only [tyD] at h
    cases hg : G a with
    | none => rw [hg] at h; cases h
    | some o =>
      rw [hg] at h
      cases o with
      | lst l =>
        obtain ⟨xs, h1, rl⟩ := g a _ hg
        simp only [Option.some.injEq] at h
        subst h
        exact ⟨.base (.lst h1), by decide⟩
      | dct l =>
        obtain ⟨ws, h1, _⟩ := g a _ hg
        simp only [Option.some.injEq] at h
        subst h
        exact ⟨.base (.dK h1), by decide⟩
      | raw _ => cases h
      | ins _ _ => cases h
      | dtp _ => cases h
      | tab _ => cases h
      | slt _ _ => cases h
  | scr _ => simp [tyD] at h
  | fn _ _ _ _ => simp [tyD] at h
  | exh _ _ _ _ _ => simp [tyD] at h
section
variable {X : Cx}
theorem de_isi {e : Expr} {te : DTE} {T : String} {Tn : Str} {p pT pos : Pos} (hT : T ∈ ["int", "bool", "str", "tuple", "list"]) (hg : Gl X "isinstance") (hm : X.mg "isinstance" = none) (hgT : Gl X Tn) (hmT : X.mg Tn = none) (hbT : bootBuiltins Tn = some (.type T)) (he : DE X e te)
    (hs : starEach [e, .Name Tn pT] X.env = (false, eval e X.env) :: starEach [.Name Tn pT] X.env := by rfl) (hs2 : starEach [.Name Tn pT] X.env = (false, eval (.Name Tn pT) X.env) :: starEach [] X.env := by rfl) (hpl : (backTo pos (starEach [.Name Tn pT] X.env)).any (·.1) = false := by rfl)
    (hn : Tn ≠ "__name__" := by decide) (hd : (Tn == ("__debug__" : Str)) = false := by decide) :
    DE X (.Call (.Name "isinstance" p) [e, .Name Tn pT] [] pos) (dIsi T te) := by
  refine (pe_callB call_isi hg hm PyProof.Rows.boot_isinstance (pa_cons he (pa_cons (pe_bltn (v := .ty T) hgT hmT hbT rfl hn hd) pa_nil hs2) hs) (he := hs) (hpl := hpl)).imp fun σ H Q ⟨ρ, G, q, r, h, k⟩ => ?_
  refine ⟨ρ, G, _, r, h, fun v d H1 G1 e1 r1 v1 h1 => ?_⟩
  cases e2 : tyD G1 d with
  | none => rw [e2] at h1; exact h1.elim
  | some t =>
    rw [e2] at h1
    obtain ⟨ty, tm⟩ := ty_of r1.gok v1 e2
    exact ⟨v, .ty T, .type t, .type T, subT t T, rfl, .ty T, ty, kit_ty (isi_tab t tm T hT), k _ _ H1 G1 e1 r1 bl_rv h1⟩

end
mutual
/-- ints of few digits -/
def fewD : D → Bool
  | .int i => decide (i.natAbs.log2 < 1920)
  | .tup ds => fewDs ds
  | .lst ds => fewDs ds
  | _ => true
def fewDs : List D → Bool
  | [] => true
  | d :: ds => fewD d && fewDs ds
end
mutual
theorem show_py : ∀ d : D, fewD d = true → (pyD d).showable = true
  | .non, _ => by simp [pyD, PyData.showable]
  | .bl _, _ => by simp [pyD, PyData.showable]
  | .int i, h => by simpa [pyD, PyData.showable, fewD] using h
  | .str x, _ => by simp [pyD, PyData.showable]
  | .tup ds, h => by simpa [pyD, PyData.showable] using shows_py ds (by simpa [fewD] using h)
  | .lst ds, h => by simpa [pyD, PyData.showable] using shows_py ds (by simpa [fewD] using h)
  | .byt _, h => by simp [pyD, PyData.showable]
  | .ref _, h => by simp [pyD, PyData.showable]
  | .scr _, h => by simp [pyD, PyData.showable]
  | .fn _ _ _ _, h => by simp [pyD, PyData.showable]
  | .exh _ _ _ _ _, h => by simp [pyD, PyData.showable]
theorem shows_py : ∀ ds : List D, fewDs ds = true → PyData.showableAll (pyDs ds) = true
  | [], _ => by simp [pyDs, PyData.showableAll]
  | d :: ds, h => by
    simp only [fewDs, Bool.and_eq_true] at h
    simp [pyDs, PyData.showableAll, show_py d h.1, shows_py ds h.2]
end
def shD (d : D) : Str := (pyD d).shown
def isSeqD : D → Bool
  | .tup _ => true
  | .lst _ => true
  | _ => false
structure Shw (d : D) : Prop where
  sq : isSeqD d = true
  ok : okD d
  few : fewD d = true
  len : (shD d).length ≤ sizeLine
@[simp] def rRepr : DRC := fun ds G Q => arg1 ds fun x => Shw (vw G x) ∧ Q (.str (shD (vw G x))) G
section
variable {X : Cx}
theorem c_repr (hgd : X.A.guards = some []) (hu : X.A.units + 70 < cLine) : DCall X (.builtin "repr") rRepr := by
  intro pins s σ H xs us Q I r ⟨G, ds, q, g, rl, h0, k⟩
  obtain ⟨d, rfl, hS, h⟩ := arg1_of h0
  obtain ⟨x, rfl, rx⟩ := repL_1 rl
  obtain ⟨u, rfl, ru⟩ := vals1 r
  have dp := vw_dp g rx hS.ok.1
  obtain ⟨as, rd⟩ := Dp.reads I _ x u dp ru
  obtain ⟨a, rfl⟩ : ∃ a, u = Value.ref a := by
    have hs := hS.sq
    cases e : vw G d with
    | tup l =>
      rw [e] at rd
      simp only [pyD] at rd
      cases rd
      exact ⟨_, rfl⟩
    | lst l =>
      rw [e] at rd
      simp only [pyD] at rd
      cases rd
      exact ⟨_, rfl⟩
    | _ => rw [e] at hs; simp [isSeqD] at hs
  have hnd := PyData.hasDict_of_canLay _ (lay_py _ hS.ok.1)
  have hdep : (pyD (vw G d)).depth ≤ 64 := by rw [depth_py]; exact hS.ok.2
  refine repr_of_reads' rd (show_py _ hS.few) (PyData.noDict_hsm hnd) hgd (by omega) (fun _ _ e => e) (fun h' u' tk hk => ?_) hS.len
  exact ⟨.str _, H, I.kept hk, ⟨_, rfl⟩, k _ _ H G (Ext.refl G H) g str_rv h⟩

end
@[simp] def dPairs : List (DTE × DTE) → DSt → GH → (List (D × D) → GH → Prop) → Prop
  | [], _, G, Q => Q [] G
  | (tk, tv) :: r, ρ, G, Q => tk ρ G fun x G1 => tv ρ G1 fun y G2 => dPairs r ρ G2 fun ps G3 => Q ((x, y) :: ps) G3
def keysD : List (D × D) → Option (List (Key × D))
  | [] => some []
  | p :: r => (match keyD p.1 with
    | some k => (keysD r).map ((k, p.2) :: ·)
    | none => none)
def mergeD (kvs : List (Key × D)) : List (Key × D) → List (Key × D)
  | [] => kvs
  | p :: r => mergeD (putD kvs p.1 p.2) r
@[simp] def dDisp (trs : List (DTE × DTE)) : DTE := fun ρ G Q => ∀ p, G p = none → dPairs trs ρ (updG G p (.dct [])) fun ps G2 => G2 p = some (.dct []) ∧ match keysD ps with
  | some kvs => kvs.length ≤ 15 ∧ Q (.ref p) (updG G2 p (.dct (mergeD [] kvs)))
  | none => False
def upTrs (K : PySem.W.Frag) (trs : List (DTE × DTE)) : List (TE × TE) := trs.map fun p => (up K p.1, up K p.2)
inductive RepP (K : PySem.W.Frag) (G : GH) (H : Hp) : List (D × D) → List (V × V) → Prop
  | nil : RepP K G H [] []
  | cons {d e : D} {x y : V} {ps : List (D × D)} {qs : List (V × V)} : RepV K G H d x → RepV K G H e y → RepP K G H ps qs → RepP K G H ((d, e) :: ps) ((x, y) :: qs)
theorem pairs_up {K : PySem.W.Frag} : ∀ {trs : List (DTE × DTE)} {σ : St} {H : Hp} {ρ : DSt} {G : GH} {Q : List (D × D) → GH → Prop} {Qv : List (V × V) → Hp → Prop}, DRel K σ H ρ G → dPairs trs ρ G Q →
    (∀ qs ps H' G', Ext G H G' H' → DRel K σ H' ρ G' → RepP K G' H' ps qs → Q ps G' → Qv qs H') → tPairs (upTrs K trs) σ H Qv
  | [], σ, H, ρ, G, Q, Qv, r, h, k => k [] [] H G (Ext.refl G H) r .nil h
  | (tk, tv) :: trs, σ, H, ρ, G, Q, Qv, r, h, k => by
    refine ⟨ρ, G, _, r, h, fun x dx H1 G1 e1 r1 v1 h1 => ?_⟩
    refine ⟨ρ, G1, _, r1, h1, fun y dy H2 G2 e2 r2 v2 h2 => ?_⟩
    refine pairs_up r2 h2 fun qs ps H3 G3 e3 r3 v3 h3 => ?_
    exact k _ _ H3 G3 ((e1.trans e2).trans e3) r3 (.cons (v1.ext (e2.trans e3)) (v2.ext e3) v3) h3
theorem keys_rep {K : PySem.W.Frag} {G : GH} {H : Hp} : ∀ {ps : List (D × D)} {qs : List (V × V)} {kvs : List (Key × D)}, RepP K G H ps qs → keysD ps = some kvs → ∃ ws : List (Key × V), qs = ws.map (fun kv => (kV kv.1, kv.2)) ∧ ws.map (·.1) = kvs.map (·.1) ∧ RepL K G H (kvs.map (·.2)) (ws.map (·.2))
  | _, _, kvs, .nil, h => by
    simp only [keysD, Option.some.injEq] at h
    subst h
    exact ⟨[], rfl, rfl, repL_nil⟩
  | _, _, kvs, .cons (d := d) (e := e) (x := x) (y := y) a b c, h => by
    unfold keysD at h
    cases hk : keyD d with
    | none => simp only [hk] at h; cases h
    | some k =>
      simp only [hk, Option.map_eq_some_iff] at h
      obtain ⟨ks, h1, rfl⟩ := h
      obtain ⟨ws, e1, e2, e3⟩ := keys_rep c h1
      refine ⟨(k, y) :: ws, ?_, ?_, ?_⟩
      · rw [key_rep a hk, e1]; rfl
      · simp [e2]
      · exact repL_cons b e3
theorem merge_rep {K : PySem.W.Frag} {G : GH} {H : Hp} : ∀ {kvs : List (Key × D)} {ws : List (Key × V)} {acc : List (Key × D)} {bcc : List (Key × V)}, ws.map (·.1) = kvs.map (·.1) → RepL K G H (kvs.map (·.2)) (ws.map (·.2)) → bcc.map (·.1) = acc.map (·.1) → RepL K G H (acc.map (·.2)) (bcc.map (·.2)) →
    (mergeK bcc ws).map (·.1) = (mergeD acc kvs).map (·.1) ∧ RepL K G H ((mergeD acc kvs).map (·.2)) ((mergeK bcc ws).map (·.2))
  | [], [], _, _, _, _, e, r => ⟨e, r⟩
  | [], _ :: _, _, _, e, _, _, _ => by simp at e
  | _ :: _, [], _, _, e, _, _, _ => by simp at e
  | p :: kvs, q :: ws, acc, bcc, e, r, e2, r2 => by
    simp only [List.map_cons, List.cons.injEq] at e
    simp only [List.map_cons] at r
    unfold RepL at r
    obtain ⟨x, t, e3, h1, h2⟩ := r
    simp only [List.cons.injEq] at e3
    obtain ⟨e4, e5⟩ := e3
    subst e4
    rw [← e5] at h2
    obtain ⟨i1, i2⟩ := putD_rep (k := p.1) h1 e2 r2
    have := merge_rep (acc := putD acc p.1 p.2) (bcc := putK bcc p.1 q.2) e.2 h2 i1 i2
    unfold mergeD
    show (mergeK (putK bcc q.1 q.2) ws).map _ = _ ∧ RepL K G H _ ((mergeK (putK bcc q.1 q.2) ws).map _)
    rw [e.1]
    exact this
section
variable {X : Cx}
abbrev DPs (X : Cx) (pos : Pos) (keys : List (Option Expr)) (values : List Expr) (trs : List (DTE × DTE)) : Prop := PPs X pos keys values (upTrs X.K trs)
theorem dps_nil {pos : Pos} : DPs X pos [] [] [] := pps_nil
theorem dps_cons {pos : Pos} {k v : Expr} {ks : List (Option Expr)} {vs : List Expr} {tk tv : DTE} {trs : List (DTE × DTE)} (hk : DE X k tk) (hv : DE X v tv) (hr : DPs X pos ks vs trs) : DPs X pos (some k :: ks) (v :: vs) ((tk, tv) :: trs) := pps_cons hk hv hr
theorem de_disp {pos : Pos} {keys : List (Option Expr)} {values : List Expr} {trs : List (DTE × DTE)} (h : DPs X pos keys values trs) (hall : keys.all (·.isSome) = true := by rfl) (hl : keys.length = values.length := by rfl) (h0 : keys ≠ [] := by exact List.cons_ne_nil _ _)
    (h15 : keys.length ≤ 15 := by decide) : DE X (.Dict keys values pos) (dDisp trs) := by
  refine (pe_disp h hall hl h0 h15).imp fun σ H Q ⟨ρ, G, q, r, h, k⟩ => fun p hp => ?_
  have e1 : Ext G H (updG G p (.dct [])) (upd H p (.dK [])) := Ext.newG hp
  have g1 : GOk X.K (updG G p (.dct [])) (upd H p (.dK [])) := r.gok.put e1 ⟨[], upd_same, rfl, repL_nil⟩
  refine pairs_up (r.ext e1 g1) (h p (r.gok.fresh hp)) fun qs ps H2 G2 e2 r2 v2 h2 => ?_
  obtain ⟨h3, h4⟩ := h2
  obtain ⟨ws, w1, w2, _⟩ := r2.gok p _ h3
  have ews : ws = [] := by simpa using w2
  subst ews
  refine ⟨w1, ?_⟩
  cases hk : keysD ps with
  | none => rw [hk] at h4; exact h4.elim
  | some kvs =>
    rw [hk] at h4
    obtain ⟨zs, z1, z2, z3⟩ := keys_rep v2 hk
    have hlen : zs.length = kvs.length := by simpa using congrArg List.length z2
    obtain ⟨m1, m2⟩ := merge_rep (acc := []) (bcc := []) z2 z3 rfl repL_nil
    have e3 : Ext G2 H2 (updG G2 p (.dct (mergeD [] kvs))) (upd H2 p (.dK (mergeK [] zs))) := Ext.write h3
    refine ⟨zs, z1, by rw [hlen]; exact h4.1, k _ _ _ _ ((e1.trans e2).trans e3) (r2.ext e3 (r2.gok.put e3 ⟨_, upd_same, m1, m2.ext e3⟩)) ref_rv h4.2⟩

end
section
variable {X : Cx} {k : Nat} {f : Addr} {fd : FuncData} {ps ks : List Str} {sp : DSp} {x : Str} {p pos : Pos} {kws : List Keyword} {tk : DTA} {nm : Option Str} {kpos : Pos} {e : Expr} {te : DTE}
structure KwB (K : PySem.W.Frag) (fd : FuncData) (ps ks : List Str) (g : {α : Type} → List α → List α) : Prop where
  to : ∀ (s : Shared) (ws : List Value), (g ws).length = ps.length → BindsTo s fd ⟨[], ks.zip ws⟩ (ps.zip (g ws))
  vals : ∀ {xs : List V} {us : List Value}, Vals xs us → Vals (g xs) (g us)
  reps : ∀ {G : GH} {H : Hp} {ds : List D} {xs : List V}, RepL K G H ds xs → RepL K G H (g ds) (g xs)
end

section
variable {X : Cx}
end
end Dl

namespace Dl
open PySem L2
section
open AutoSeq1 (wpAny_loadPart')
theorem enum_new_tuple (t : Addr) (items : Array Value) (n : Nat) (dct : Option Addr) (sl : Array (Option Value)) :
    Meets (Builtin.«enumerate.__new__» ⟨[.type "enumerate", .ref t], []⟩) (fun _ R s => s.heap.get? t = some { cls := .type "tuple", dict := dct, data := .seq items n, slots := sl } ∧
      R (.ok (.ret (.ref (s.heap.push { cls := .type "tuple_iterator", data := .fields #[.ref t, .int 0 0] }).objs.size)))
        { s with heap := (s.heap.push { cls := .type "tuple_iterator", data := .fields #[.ref t, .int 0 0] }).push { cls := .type "enumerate", data := .fields #[.none, .bool false, .ref s.heap.objs.size, rawInt 0, .none, .none] } }) :=
  .of_wp fun prog w A R st hh => by
    obtain ⟨hp, gg, dr, tk, os⟩ := st
    obtain ⟨hl, hR⟩ := hh
    have hsub := sub_enumerate
    have hT : Heap.IsTuple (Shared.heap ⟨hp, gg, dr, tk, os⟩) t items := ⟨_, hl, rfl, n, rfl⟩
    wp_walk using wpAny_loadPart' hl
    refine wpAny_stack_any fun stk => wpAny_pure ?_
    split
    · rename_i c _ _ _ _ _
      cases (c == Value.type "enumerate") <;> (wp_walk using wpAny_loadPart' hl, wpAny_pyIter_tuple hT; exact ⟨_, rfl, hR⟩)
    · wp_walk using wpAny_loadPart' hl, wpAny_pyIter_tuple hT
      exact ⟨_, rfl, hR⟩
theorem call_enum_tuple {prog : Program} {w : World} {A : Around} {E : Value → Shared → Prop} {s : Shared} {t : Addr} {items : Array Value} {Q : Value → Shared → Prop} (hT : s.heap.IsTuple t items)
    (h : ∀ h', IsEnum h' (s.heap.objs.size + 1) s.heap.objs.size 0 .none → h'.IsTupleIter s.heap.objs.size t 0 → h'.objs.size = s.heap.objs.size + 2 →
      (∀ b o, s.heap.get? b = some o → h'.get? b = some o) → Q (.ref (s.heap.objs.size + 1)) { s with heap := h' }) : wpAny (model prog w) A (PySem.call (.type "enumerate") [.ref t]) Q E s := by
  obtain ⟨⟨c, dct, dt, sl⟩, hl, hc, n, hd⟩ := hT
  simp only at hc hd
  subst hc hd
  refine callType_new F.called_enumerate (by decide) (F.typeCall_enumerate_1 _) (F.newCall_enumerate_1 _) (fun obj => F.args_object_init_2 obj _) F.entry_enumerate_new (enum_new_tuple t items n dct sl) ⟨hl, ?_⟩
  have sz : (s.heap.push { cls := .type "tuple_iterator", data := .fields #[.ref t, .int 0 0] }).objs.size = s.heap.objs.size + 1 := Heap.size_push ..
  have top := Heap.get?_push_size (s.heap.push { cls := .type "tuple_iterator", data := .fields #[.ref t, .int 0 0] }) (o := { cls := .type "enumerate", data := .fields #[.none, .bool false, .ref s.heap.objs.size, rawInt 0, .none, .none] }) rfl
  rw [sz] at top
  show _ ∧ _
  rw [sz]
  exact ⟨⟨_, top, rfl⟩, h _ top ⟨_, Heap.get?_push_of_some _ (Heap.get?_push_size _ rfl), rfl, rfl⟩ (by rw [Heap.size_push, sz]) fun b o q => Heap.get?_push_of_some _ (Heap.get?_push_of_some _ q)⟩
end
def Iet (K : PySem.W.Frag) (a : Addr) : It where
  go := fun i H => ∃ (xs : List V) (x : V), SqT K H a xs ∧ xs[i]? = some x
  yld := fun i H v H' => ∃ T x, v = .ref T ∧ H T = none ∧ H' = upd H T (.tup [.int (i : Nat), x]) ∧ ∀ xs, SqT K H a xs → xs[i]? = some x
  stop := fun i H => ∃ xs : List V, SqT K H a xs ∧ xs.length = i
theorem turn_enumT {P : Program} {w : World} {K : PySem.W.Frag} {elts : List Expr} {kk : Nat} {tpos : Pos} (a e it : Addr) :
    Turn P w K (.Tuple elts kk tpos) (Iet K a) [e, it] e (fun i h => (∃ old, IsEnum h e it ((i : Nat) : Int) old) ∧ h.IsTupleIter it a i ∧ e ≠ it) where
  mem := by simp
  obj := by
    rintro i h ⟨⟨old, he⟩, ⟨o, ho, hc, hd⟩, _⟩ b hb
    rcases (by simpa using hb : b = e ∨ b = it) with rfl | rfl
    · exact ⟨_, he, fun v q => nomatch q⟩
    · exact ⟨o, ho, fun v q => by rw [hd] at q; cases q⟩
  keep := by
    rintro i h h' ⟨⟨old, he⟩, hi, hne⟩ k
    exact ⟨⟨old, k e (by simp) _ he⟩, hi.at fun o q => k it (by simp) o q, hne⟩
  item := by
    rintro X rfl rfl rfl hc i pins s σ H E I hf ⟨⟨old, he⟩, hit, hne⟩ ⟨xs, x, hq, hx⟩
    obtain ⟨its, rv, tp, hz⟩ := I.tuple hq
    obtain ⟨u, hu, ru⟩ := rv.get hx
    have hel : e < s.heap.objs.size := Heap.lt_size he
    have hil : it < s.heap.objs.size := by obtain ⟨_, q, _⟩ := hit; exact Heap.lt_size q
    have htp : s.heap.IsTuple a its.toArray := tp
    have hai : a ≠ it := by
      rintro rfl
      obtain ⟨o1, q1, c1, _⟩ := htp
      obtain ⟨o2, q2, c2, _⟩ := hit
      rw [q1] at q2
      cases q2
      rw [c1] at c2
      simp at c2
    have hae : a ≠ e := by
      rintro rfl
      obtain ⟨o1, q1, c1, _⟩ := htp
      have q2 : s.heap.get? a = some _ := he
      rw [q1] at q2
      cases q2
      simp at c1
    have hlt : i < its.toArray.size := by
      have := (List.getElem?_eq_some_iff.mp hu).1
      simpa using this
    refine wpAny_pyNext_enum_itemC (Draws.tuple (show X.A.in1.handled = none from I.ok.hd hc) it a hai its.toArray) he ⟨hit, htp⟩ hlt hne (by simp [hne, hae.symm]) ?_
    intro y h' tk hy ho hst hT hsz hk
    have ey : y = u := by
      have hy2 : its.toArray[i]? = some y := hy
      rw [show its.toArray[i]? = its[i]? by simp] at hy2
      rw [hu] at hy2
      exact (Option.some.inj hy2).symm
    subst ey
    refine ⟨_, rfl, wpAny_letOwnedTupleGo_enum (s := { s with heap := h', toks := tk + 1 }) ho fun h2 he2 sb => ?_⟩
    have hT2 : h2.get? s.heap.objs.size = some { cls := .type "tuple", data := .seq #[.int i tk, y] } := (sb.2 _ (Nat.ne_of_gt hel)).trans hT
    have new : ObjOk X.prog X.w (upd H s.heap.objs.size (.tup [.int (i : Nat), x])) h2 s.heap.objs.size (.tup [.int (i : Nat), x]) :=
      ⟨by show 2 ≤ sizeLine; decide, [.int i tk, y], .cons ⟨_, rfl⟩ (.cons ru .nil), ⟨_, hT2, rfl, _, rfl⟩⟩
    have I1 : Inv X pins σ (upd H s.heap.objs.size (.tup [.int (i : Nat), x])) { s with heap := h2, toks := tk + 1 } :=
      I.turnedNew (ch := [e, it]) (fun b ob hb q => (sb.2 b (fun z => hb (by simp [z]))).trans (hk b ob (fun z => hb (by simp [z])) (fun z => hb (by simp [z])) q)) hf (Nat.le_refl _) new
    refine ⟨.ref s.heap.objs.size, _, I1, rfl, ⟨_, x, rfl, I.hok.fresh (Nat.le_refl _), rfl, fun ys hy => by rw [I.tuple_inj hy hq]; exact hx⟩, ⟨⟨y, ?_⟩, hst.1.at fun o q => (sb.2 it (Ne.symm hne)).trans q, hne⟩, fun b hb => ?_⟩
    · have e1 : ((i + 1 : Nat) : Int) = (i : Int) + 1 := by omega
      rw [e1]
      exact he2
    · have hb2 : b < s.heap.objs.size := by
        rcases (by simpa using hb : b = e ∨ b = it) with rfl | rfl
        · exact hel
        · exact hil
      rw [upd_ne (Nat.ne_of_lt hb2)]
      exact (hf b hb).1
  done := by
    rintro X rfl rfl rfl hc i pins s σ H E I hf ⟨⟨old, he⟩, hit, hne⟩ ⟨xs, hq, hx⟩
    obtain ⟨its, rv, tp, hz⟩ := I.tuple hq
    obtain ⟨f0, f1, f2, f3, f4, f5⟩ := hf it (by simp)
    have htp : s.heap.IsTuple a its.toArray := tp
    have hai : a ≠ it := by
      rintro rfl
      obtain ⟨o1, q1, c1, _⟩ := htp
      obtain ⟨o2, q2, c2, _⟩ := hit
      rw [q1] at q2
      cases q2
      rw [c1] at c2
      simp at c2
    have hl : its.toArray.size = i := by rw [List.size_toArray, ← rv.length]; exact hx
    subst hl
    exact wpAny_pyNext_enum_endD (Draws.tuple (show X.A.in1.handled = none from I.ok.hd hc) it a hai its.toArray) he ⟨hit, htp⟩ fun h' eb => ⟨rfl, I.turned (t' := s.toks) (fun b o hb q => eb b o hb q) f0 f1 f3 f4 f5⟩
  self := by
    rintro A i s Q E ⟨⟨_, he⟩, _⟩ h
    exact wpAny_pyIter_enum he h
section
variable {X : Cx}
def iEnumT (K : PySem.W.Frag) (ta : TA) : TI := fun σ H R => ta σ H fun vs H1 => ∃ a xs, vs = [.ref a] ∧ SqT K H1 a xs ∧ R (Iet K a) H1
theorem pi_enumT {e : Expr} {ta : TA} {p pos tpos : Pos} {elts : List Expr} {kk : Nat} (hg : Gl X "enumerate") (hm : X.mg "enumerate" = none) (ha : PA X [e] ta) (hs : starEach [e] X.env = [(false, eval e X.env)] := by rfl) :
    PI X (.Tuple elts kk tpos) (.Call (.Name "enumerate" p) [e] [] pos) (iEnumT X.K ta) := by
  constructor
  intro pins s σ H R I h
  refine PyProof.Rows.Call_ (ld_blt I hg hm PyProof.Rows.boot_enumerate (PyProof.Rows.callWith_type1 (thn (ha.run pos pins s σ H _ I h) ?_) hs rfl))
  rintro us s1 ⟨vs, H1, I1, r1, a, xs, rfl, hq, q⟩
  obtain ⟨u, rfl, ru⟩ := vals1 r1
  cases ru
  obtain ⟨its, rv, tp, hz⟩ := I1.tuple hq
  refine call_enum_tuple (show s1.heap.IsTuple a its.toArray from tp) fun h' he hit hsz hk => wpAny_pyIter_enum he ?_
  have I2 : Inv X pins σ H1 { s1 with heap := h' } := I1.kept (t' := s1.toks) hk
  refine ⟨s1.heap.objs.size + 1, [s1.heap.objs.size + 1, s1.heap.objs.size], _, _, H1, rfl, I2, turn_enumT a (s1.heap.objs.size + 1) s1.heap.objs.size, ⟨⟨.none, he⟩, hit, Nat.succ_ne_self _⟩, fun b hb => ?_, q⟩
  have hle : s1.heap.objs.size ≤ b := by
    rcases (by simpa using hb : b = s1.heap.objs.size + 1 ∨ b = s1.heap.objs.size) with rfl | rfl
    · exact Nat.le_add_right _ _
    · exact Nat.le_refl _
  exact I1.fpOk hle (I1.hok.fresh hle)
end
def enumD (ds : List D) : List D := (List.range ds.length).map fun i => D.tup [.int (i : Nat), ds.getD i .non]
theorem enumD_get {ds : List D} {i : Nat} {d : D} (h : (enumD ds)[i]? = some d) : ∃ x, ds[i]? = some x ∧ d = .tup [.int (i : Nat), x] := by
  unfold enumD at h
  rw [List.getElem?_map] at h
  by_cases hi : i < ds.length
  · rw [List.getElem?_range hi] at h
    simp only [Option.map_some, Option.some.injEq] at h
    exact ⟨ds[i], List.getElem?_eq_getElem hi, by rw [← h]; simp [hi]⟩
  · rw [List.getElem?_eq_none (by simpa using hi)] at h
    simp at h
theorem enumD_len (ds : List D) : (enumD ds).length = ds.length := by simp [enumD]
@[simp] def iEnT (te : DTE) : DTI := fun ρ G Q => te ρ G fun d G1 => match d with
  | .tup ds => Q (enumD ds) okAll G1
  | _ => False
section
variable {X : Cx}
theorem di_enumT {e : Expr} {te : DTE} {p pos tpos : Pos} {elts : List Expr} {kk : Nat} (hg : Gl X "enumerate") (hm : X.mg "enumerate" = none) (he : DE X e te) (hs : starEach [e] X.env = [(false, eval e X.env)] := by rfl) :
    DI X (.Tuple elts kk tpos) (.Call (.Name "enumerate" p) [e] [] pos) (iEnT te) := by
  refine (pi_enumT hg hm (pa_cons he pa_nil (by rw [hs]; rfl)) hs).imp fun σ H R ⟨ρ, G, q, r, h, k⟩ => ?_
  refine ⟨ρ, G, _, r, h, fun v d H1 G1 e1 r1 v1 h1 => ?_⟩
  cases d with
  | tup ds =>
    unfold RepV at v1
    obtain ⟨a, xs, rfl, ta, rl⟩ := v1
    refine ⟨a, xs, rfl, ta.sq, k _ (enumD ds) okAll H1 G1 e1 r1 (fun G2 H2 e2 g2 _ i => ⟨fun d hd => ?_, fun hi => ⟨xs, (ta.ext e2).sq, by rw [rl.length, hi, enumD_len]⟩⟩) h1⟩
    obtain ⟨x, hx, rfl⟩ := enumD_get hd
    obtain ⟨w, hw, rw'⟩ := (rl.ext e2).get hx
    refine ⟨⟨xs, w, (ta.ext e2).sq, hw⟩, fun y H3 hy => ?_⟩
    obtain ⟨T, z, rfl, hT, rfl, hz⟩ := hy
    have ez := hz xs (ta.ext e2).sq
    rw [hw] at ez
    cases ez
    obtain ⟨e3, g3, v3⟩ := new_tup g2 hT (repL_cons (int_rv (i := (i : Nat))) (repL_one rw'))
    exact ⟨e3, g3, v3⟩
  | _ => exact h1.elim
end
end Dl

namespace Dl
open PySem PySem.Spec PyProof.Rows L2

theorem law_go {P : Program} {w : World} {K : PySem.W.Frag} {mg mb : Str → Option Value} {k : Nat} {fa a : Addr} {fd : FuncData} {x : Str} {sp : DSp} {st : Shared} {vs : List Value} {ns : List Int}
    (kin : K.In st.heap) (gl : st.heap.Ns mainGlobals mg) (bl : st.heap.Ns builtinsNs mb) (bb : ∀ y : Str, y ≠ "__name__" → mb y = bootBuiltins y) (lim : st.heap.NoLimit) (hg : st.gens = #[])
    (ha : st.heap.get? a = some { cls := .type "list", data := .seq vs.toArray }) (hi : IntsAre vs ns) (hl : ns.length ≤ sizeLine) (hr : Room k callerA) (hgd : callerA.guards = some [])
    (F : ∀ base : Heap, K.In base → base.Ns mainGlobals mg → DFn P w K mg base k fa fd [x] sp) (bind : ∀ (s : Shared) (u : Value), BindsTo s fd ⟨[u], []⟩ [(x, u)])
    (hsp : sp [.scr ns] (fun _ => none) (fun d _ => d = .bl true) noX) :
    codeAny (model P w) callerA (.call (.ref fa) ⟨[.ref a], []⟩) (fun r s' => r = .ok (.ret (.bool true)) ∧ OldK st.heap s'.heap ∧ s'.os = st.os ∧ AllBare s'.gens) st := by
  have rv : Vals (ns.map V.int) vs := vals_of_ints hi
  have ln : vs.length = ns.length := hi.length
  let ob : Obj := { cls := .type "list", data := .seq vs.toArray }
  let fz : HO := .frz ob (.lst (ns.map V.int))
  -- the abstract heap: the script alone, if it is not of the written part
  obtain ⟨H, h1, h2, h3⟩ : ∃ H : Hp, (∀ b, H b = none ∨ (b = a ∧ H b = some fz)) ∧ ScrAt K (fun _ => none) H a (ns.map V.int) ∧ (∀ b o, K.lookup b = some o → H b = none) := by
    cases q : K.lookup a with
    | some o =>
      have e := kin a o q
      rw [ha] at e
      cases e
      refine ⟨fun _ => none, fun _ => .inl rfl, .inr ⟨_, vs.toArray, _, q, rfl, rfl, rfl, ?_, ?_⟩, fun _ _ _ => rfl⟩
      · rw [List.size_toArray, ln]; exact hl
      · simpa using rv
    | none =>
      refine ⟨fun b => if b = a then some fz else none, fun b => ?_, .inl ⟨rfl, .inr ⟨ob, if_pos rfl⟩⟩, fun b o e => ?_⟩
      · by_cases e : b = a
        · exact .inr ⟨e, if_pos e⟩
        · exact .inl (if_neg e)
      · refine if_neg ?_
        rintro rfl
        rw [q] at e
        cases e
  have dicts : ∀ {b : Addr} {o : Obj} {es : Array DictEntry} {ep : Nat}, st.heap.get? b = some o → o.data = .dict es ep → H b = none := by
    intro b o es ep e d
    rcases h1 b with z | ⟨rfl, _⟩
    · exact z
    · rw [ha] at e
      cases e
      cases d
  have keep : ∀ {b : Addr} {m : Str → Option Value}, st.heap.Ns b m → (hidT st.heap H).Ns b m := by
    rintro b m ⟨o, es, ep, e, d, r⟩
    exact ⟨o, es, ep, hidT_get e (dicts e d), d, r⟩
  have kin2 : K.In (hidT st.heap H) := fun b o e => hidT_get (kin b o e) (h3 b o e)
  have ok : HOk P w H st.heap := by
    intro b u e
    rcases h1 b with z | ⟨rfl, z⟩
    · rw [z] at e; cases e
    · rw [z] at e
      cases e
      exact ⟨ha, by rw [List.length_map]; exact hl, vs, _, rv, ha⟩
  obtain ⟨ml, l1, l2⟩ := lim
  have e0 : Env0 P w K mg (hidT st.heap H) callerA [] st H :=
    { frames := rfl, mod := ⟨kin2, keep gl, ⟨mb, keep bl, bb⟩, ⟨ml, keep l1, l2⟩⟩, bs := fun b o e => of_hidT e, bsz := Nat.le_of_eq (hidT_size _ _), funs := trivial, frf := fun b hb => absurd (show b ∈ ([] : List Addr) from hb) (by simp), hok := ok, bare := .of_eq hg }
  have gok : GOk K (fun _ => none) H := fun b o e => nomatch e
  have rep : RepL K (fun _ => none) H [.scr ns] [.ref a] := repL_one (by unfold RepV; exact ⟨a, rfl, h2⟩)
  have prom : toSp K sp [.ref a] H (fun v _ => v = .bl true) E0 := ⟨_, _, _, noX, rep, gok, hsp, fun v d H' G' _ _ r q => by
    have q' : d = .bl true := q
    subst q'
    exact rv_bl r, fun _ _ _ _ _ _ _ _ z => z.elim⟩
  refine codeAny_mono ((F _ kin2 (keep gl)).go callerA [] st H ⟨[.ref a], []⟩ [.ref a] [.ref a] _ _ hr hgd e0 (bind st (.ref a)) (.cons rfl .nil) prom) ?_
  intro r s2 hq
  match r, hq with
  | .ok (.ret u), hq =>
    obtain ⟨v, H2, os, bare, un, ok2, ru, qv⟩ := hq
    have qv' : v = .bl true := qv
    subst qv'
    obtain rfl : u = Value.bool true := ru
    refine ⟨rfl, OldK.of_keep ?_, os, bare⟩
    intro b o e
    rcases h1 b with z | ⟨rfl, z⟩
    · exact un.keep b o e z (by simp [frs]) (by simp)
    · have z2 := un.frzs _ ob _ z
      obtain ⟨e1, _⟩ := ok _ _ z
      obtain ⟨e2, _⟩ := ok2 _ _ z2
      rw [e] at e1
      cases e1
      exact e2
theorem d_walk {l : PySem.W.OpenLaw} {n k : Nat} {q : Program} {loose : List Str} {XP : (Str → Option Value) → Heap → Prop} {YP : World → Heap → Prop} {d : DefRec} {x : Str}
    (hn : l.most = some n) (hn2 : n ≤ sizeLine) (hdf : d.params.defaults = []) (hr : Room k callerA) (hgd : callerA.guards = some [])
    (F : ∀ (w : World) (mg : Str → Option Value) (fa : Addr) (h : Heap), YP w h → h.Ns mainGlobals mg → mg d.name = some (.ref fa) →
      ∃ (K : PySem.W.Frag) (fd : FuncData) (sp : DSp), K.In h ∧ (∀ (s : Shared) (u : Value), BindsTo s fd ⟨[u], []⟩ [(x, u)]) ∧
        (∀ ns : List Int, ns.length ≤ n → sp [.scr ns] (fun _ => none) (fun d _ => d = .bl true) noX) ∧
        ∀ base : Heap, K.In base → base.Ns mainGlobals mg → DFn l.prog w K mg base k fa fd [x] sp) :
    PySem.W.WalkO q loose XP YP l.row.toRowW d [] (fun f vs => PySem.call f vs) := by
  refine Att.attach_call hn hdf ?_
  intro w s0 s1 mg mb fa o pm cd doc a vs ns G Y ho hd hcd hmg hobj hints hlen hg
  obtain ⟨K, fd, sp, kin, hb, hsp, hF⟩ := F w mg fa _ Y G.T.g hmg
  exact law_go kin G.T.g G.T.b G.T.builtins G.T.nolimit hg hobj hints (Nat.le_trans hlen hn2) hr hgd hF hb (hsp ns hlen)
end Dl

namespace Dl
open PySem L2

@[simp] def dNeg (te : DTE) : DTE := fun ρ G Q => te ρ G fun d G1 => match d with
  | .int i => Q (.int (-i)) G1
  | _ => False
section
variable {X : Cx}
theorem de_neg {a : Expr} {ta : DTE} {pos : Pos} (h : DE X a ta) : DE X (.UnaryOp .USub a pos) (dNeg ta) := by
  refine (pe_un un_neg h).imp fun σ H Q ⟨ρ, G, q, r, h, k⟩ => ?_
  refine ⟨ρ, G, _, r, h, fun v d H1 G1 e1 r1 v1 h1 => ?_⟩
  cases d with
  | int i => cases rv_int v1; exact ⟨i, rfl, k _ _ H1 G1 e1 r1 int_rv h1⟩
  | _ => exact h1.elim

theorem pi_seq {tg l : Expr} {tl : TE} (hl : PE X l tl) : PI X tg l (fun σ H R => tl σ H fun x H1 => (∃ a, x = .ref a ∧ (∃ xs, SqL X.K H1 a xs) ∧ R (Itl X.K a) H1) ∨ ∃ a, x = .ref a ∧ (∃ xs, SqT X.K H1 a xs) ∧ R (Itt X.K a) H1) := by
  constructor
  intro pins s σ H R I h
  refine thn (hl.run pins s σ H _ I h) ?_
  rintro v s1 ⟨x, H1, I1, r1, q1⟩
  have fp : ∀ b ∈ [s1.heap.objs.size], FpOk X pins H1 b := by
    intro b hb
    obtain rfl : b = s1.heap.objs.size := by simpa using hb
    exact I1.fpOk (Nat.le_refl _) (I1.hok.fresh (Nat.le_refl _))
  rcases q1 with ⟨a, rfl, ⟨xs, hq⟩, q⟩ | ⟨a, rfl, ⟨xs, hq⟩, q⟩
  · cases r1
    obtain ⟨its, rv, p, hz⟩ := I1.list hq
    exact wpAny_pyIter_list p.isList ⟨_, [s1.heap.objs.size], _, _, H1, rfl, I1.kept (t' := s1.toks) (fun b o e => Heap.get?_push_of_some _ e), turn_list a _, ⟨_, Heap.get?_push_size _ rfl, rfl, rfl⟩, fp, q⟩
  · cases r1
    obtain ⟨its, rv, p, hz⟩ := I1.tuple hq
    exact wpAny_pyIter_tuple (show s1.heap.IsTuple a its.toArray from p) ⟨_, [s1.heap.objs.size], _, _, H1, rfl, I1.kept (t' := s1.toks) (fun b o e => Heap.get?_push_of_some _ e), turn_tuple a _, ⟨_, Heap.get?_push_size _ rfl, rfl, rfl⟩, fp, q⟩
@[simp] def iSq (te : DTE) : DTI := fun ρ G Q => te ρ G fun d G1 => match d with
  | .tup ds => Q ds okAll G1
  | .lst ds => Q ds okAll G1
  | .ref a => (match G1 a with
    | some (.lst ds) => Q ds (fun G => G a = some (.lst ds)) G1
    | _ => False)
  | _ => False
theorem di_seq {tg e : Expr} {te : DTE} (he : DE X e te) : DI X tg e (iSq te) := by
  refine (pi_seq he).imp fun σ H R ⟨ρ, G, q, r, h, k⟩ => ?_
  refine ⟨ρ, G, _, r, h, fun v d H1 G1 e1 r1 v1 h1 => ?_⟩
  cases d with
  | tup ds =>
    unfold RepV at v1
    obtain ⟨a, xs, rfl, ta, rl⟩ := v1
    refine .inr ⟨a, rfl, ⟨xs, ta.sq⟩, k _ ds okAll H1 G1 e1 r1 (fun G2 H2 e2 g2 _ i => ⟨fun d hd => ?_, fun hi => ⟨xs, (ta.ext e2).sq, by rw [rl.length]; exact Nat.le_of_eq hi.symm⟩⟩) h1⟩
    obtain ⟨x, hx, rx⟩ := (rl.ext e2).get hd
    refine ⟨⟨xs, x, (ta.ext e2).sq, hx⟩, fun y H3 hy => ?_⟩
    obtain ⟨rfl, hy⟩ := hy
    have e := hy xs (ta.ext e2).sq
    rw [hx] at e
    cases e
    exact ⟨Ext.refl _ _, g2, rx⟩
  | lst ds =>
    unfold RepV at v1
    obtain ⟨a, xs, rfl, ta, rl⟩ := v1
    refine .inl ⟨a, rfl, ⟨xs, ta.sq⟩, k _ ds okAll H1 G1 e1 r1 (fun G2 H2 e2 g2 _ i => ⟨fun d hd => ?_, fun hi => ⟨xs, (ta.ext e2).sq, by rw [rl.length]; exact Nat.le_of_eq hi.symm⟩⟩) h1⟩
    obtain ⟨x, hx, rx⟩ := (rl.ext e2).get hd
    refine ⟨⟨xs, x, (ta.ext e2).sq, hx⟩, fun y H3 hy => ?_⟩
    obtain ⟨rfl, hy⟩ := hy
    have e := hy xs (ta.ext e2).sq
    rw [hx] at e
    cases e
    exact ⟨Ext.refl _ _, g2, rx⟩
  | ref a =>
    cases rv_ref v1
    dsimp only at h1
    cases hg : G1 a with
    | none => rw [hg] at h1; exact h1.elim
    | some o =>
      rw [hg] at h1
      cases o with
      | lst ds =>
        obtain ⟨xs, hx, rx⟩ := r1.gok a _ hg
        refine .inl ⟨a, rfl, ⟨xs, SqL.of hx⟩, k _ ds (fun G => G a = some (.lst ds)) H1 G1 e1 r1 (fun G2 H2 e2 g2 ho i => ?_) h1⟩
        obtain ⟨ys, hy, ry⟩ := g2 a _ ho
        refine ⟨fun d hd => ?_, fun hi => ⟨ys, SqL.of hy, by rw [ry.length]; exact Nat.le_of_eq hi.symm⟩⟩
        obtain ⟨x, hx, rx⟩ := ry.get hd
        refine ⟨⟨ys, x, SqL.of hy, hx⟩, fun z H3 hz => ?_⟩
        obtain ⟨rfl, hz⟩ := hz
        have e := hz ys (SqL.of hy)
        rw [hx] at e
        cases e
        exact ⟨Ext.refl _ _, g2, rx⟩
      | dct _ => exact h1.elim
      | raw _ => exact h1.elim
      | ins _ _ => exact h1.elim
      | dtp _ => exact h1.elim
      | tab _ => exact h1.elim
      | slt _ _ => exact h1.elim
  | _ => exact h1.elim

end

structure Callee (P : Program) (w : World) (K : PySem.W.Frag) (mg : Str → Option Value) (base : Heap) (k : Nat) (x : Str) (ps : List Str) (sp : DSp) : Prop where
  ex : ∃ f fd, DFn P w K mg base k f fd ps sp ∧ mg x = some (.ref f) ∧ PySem.W.keepIn K (.ref f) = true ∧ Binds K fd ps [] ∧ KwB K fd ps ps (fun l => l)
theorem Callee.up {P : Program} {w : World} {K : PySem.W.Frag} {mg : Str → Option Value} {base : Heap} {j k : Nat} {x : Str} {ps : List Str} {sp : DSp} (C : Callee P w K mg base j x ps sp) (h : j ≤ k) : Callee P w K mg base k x ps sp := by
  obtain ⟨f, fd, F, a⟩ := C.ex
  exact ⟨f, fd, F.up h, a⟩
section
variable {X : Cx} {k : Nat} {x : Str} {ps : List Str} {sp : DSp} {p pos : Pos} {e : Expr} {es : List Expr} {ta : DTA} {kws : List Keyword}
theorem dc (C : Callee X.prog X.w X.K X.mg X.base k x ps sp) (hr : Room k X.A) (hgd : X.A.guards = some []) (hg : Gl X x) (ha : DA X (e :: es) ta) (hdb : (x == ("__debug__" : Str)) = false := by decide)
    (he : starEach (e :: es) X.env = (false, eval e X.env) :: starEach es X.env := by rfl) (hpl : (backTo pos (starEach es X.env)).any (·.1) = false := by rfl) : DE X (.Call (.Name x p) (e :: es) [] pos) (dCall sp ta) := by
  obtain ⟨f, fd, F, hm, hk, hb, _⟩ := C.ex
  exact de_call F hr hgd hg hm hk hb ha hdb he hpl
theorem dc0 (C : Callee X.prog X.w X.K X.mg X.base k x ps sp) (hr : Room k X.A) (hgd : X.A.guards = some []) (hg : Gl X x) (hdb : (x == ("__debug__" : Str)) = false := by decide) : DE X (.Call (.Name x p) [] [] pos) (dCall sp dNil) := by
  obtain ⟨f, fd, F, hm, hk, hb, _⟩ := C.ex
  exact de_call0 F hr hgd hg hm hk hb hdb
theorem callee_of {P : Program} {w : World} {K : PySem.W.Frag} {mg : Str → Option Value} {base : Heap} {qual : Str} {params : Arguments} {body : List Stmt} {scope : Scope} {f : Addr} {fd : FuncData}
    (F : FunD K x qual params body scope [] [] f fd) (hm : mg x = some (.ref f)) (D : DFn P w K mg base k f fd ps sp)
    (b1 : ∀ (kV doc pm : Value) (an : Option Addr) (cdv ct : Value) (us : List Value), us.length = ps.length → bindArgs (PySem.W.fnOf x qual params body scope .none kV doc pm an cdv ct) ⟨us, []⟩ = pure (ps.zip us))
    (b2 : ∀ (kV doc pm : Value) (an : Option Addr) (cdv ct : Value) (us : List Value), us.length = ps.length → bindArgs (PySem.W.fnOf x qual params body scope .none kV doc pm an cdv ct) ⟨[], ps.zip us⟩ = pure (ps.zip us)) : Callee P w K mg base k x ps sp := by
  refine ⟨f, fd, D, hm, F.kp, F.bindsN b1, ⟨?_, fun r => r, fun r => r⟩⟩
  intro s ws hl
  obtain ⟨oc, od, dV, kV, doc, pm, an, cdv, ct, osl, rfl, lk, hcd, hD, hK⟩ := F.ex
  rcases hD with ⟨_, rfl⟩ | ⟨e, _⟩
  · exact .of_eq (b2 kV doc pm an cdv ct ws hl)
  · exact absurd rfl e
end

mutual
def repB (K : PySem.W.Frag) : D → Value → Bool
  | .non, u => (match u with
    | .none => true
    | _ => false)
  | .bl b, u => (match u with
    | .bool c => b == c
    | _ => false)
  | .int i, u => (match u with
    | .int j _ => decide (i = j)
    | _ => false)
  | .str x, u => (match u with
    | .str y _ => decide (x = y)
    | _ => false)
  | .tup ds, u => (match u with
    | .ref a => (match K.lookup a with
      | some ⟨.type c, _, .seq its _, _⟩ => decide (c = "tuple") && (decide (its.size ≤ sizeLine) && ((!ds.isEmpty || kempB K) && repBs K ds its.toList))
      | _ => false)
    | _ => false)
  | _, _ => false
def repBs (K : PySem.W.Frag) : List D → List Value → Bool
  | [], [] => true
  | d :: ds, u :: us => repB K d u && repBs K ds us
  | _, _ => false
end
mutual
theorem repB_ok {K : PySem.W.Frag} : ∀ {d : D} {u : Value}, repB K d u = true → ∃ v, RelV v u ∧ ∀ G H, RepV K G H d v
  | .non, u, h => by
    unfold repB at h
    cases u with
    | none => exact ⟨.non, rfl, fun _ _ => non_rv⟩
    | _ => cases h
  | .bl b, u, h => by
    unfold repB at h
    cases u with
    | bool c => exact ⟨.bl c, rfl, fun _ _ => by rw [eq_of_beq h]; exact bl_rv⟩
    | _ => cases h
  | .int i, u, h => by
    unfold repB at h
    cases u with
    | int j t => exact ⟨.int i, ⟨t, by rw [of_decide_eq_true h]⟩, fun _ _ => int_rv⟩
    | _ => cases h
  | .str i, u, h => by
    unfold repB at h
    cases u with
    | str j t => exact ⟨.str i, ⟨t, by rw [of_decide_eq_true h]⟩, fun _ _ => str_rv⟩
    | _ => cases h
  | .tup ds, u, h => by
    unfold repB at h
    cases u with
    | ref a =>
      dsimp only at h
      cases q : K.lookup a with
      | none => rw [q] at h; cases h
      | some o =>
        obtain ⟨oc, od, dt, osl⟩ := o
        rw [q] at h
        cases oc with
        | type c =>
          cases dt with
          | seq its n =>
            dsimp only at h
            rw [Bool.and_eq_true, Bool.and_eq_true, Bool.and_eq_true] at h
            obtain ⟨h1, h2, h0, h3⟩ := h
            obtain ⟨xs, rl, rp⟩ := repBs_ok h3
            refine ⟨.ref a, rfl, fun G H => ?_⟩
            have hx : xs = [] → kempB K = true := fun hx => by
              cases ds with
              | nil => simpa using h0
              | cons d ds =>
                have z := rp G H
                unfold RepL at z
                obtain ⟨_, _, e, _⟩ := z
                rw [hx] at e; cases e
            unfold RepV
            exact ⟨a, xs, rfl, .inr ⟨hx, _, its, n, q, by rw [of_decide_eq_true h1], rfl, of_decide_eq_true h2, rl⟩, rp G H⟩
          | _ => cases h
        | _ => cases dt <;> cases h
    | _ => cases h
  | .byt _, u, h => by unfold repB at h; cases h
  | .lst _, u, h => by unfold repB at h; cases h
  | .ref _, u, h => by unfold repB at h; cases h
  | .scr _, u, h => by unfold repB at h; cases h
theorem repBs_ok {K : PySem.W.Frag} : ∀ {ds : List D} {us : List Value}, repBs K ds us = true → ∃ xs, Vals xs us ∧ ∀ G H, RepL K G H ds xs
  | [], [], _ => ⟨[], .nil, fun _ _ => repL_nil⟩
  | [], _ :: _, h => by unfold repBs at h; cases h
  | _ :: _, [], h => by unfold repBs at h; cases h
  | d :: ds, u :: us, h => by
    unfold repBs at h
    rw [Bool.and_eq_true] at h
    obtain ⟨v, r1, p1⟩ := repB_ok h.1
    obtain ⟨xs, r2, p2⟩ := repBs_ok h.2
    exact ⟨v :: xs, .cons r1 r2, fun G H => repL_cons (p1 G H) (p2 G H)⟩
end
inductive Fx where
  | glo (x : Str)
  | free (x : Str)
  | dat (x : Str) (d : D)
  /-- a fact of a class -/
  | fa (f : He.Fa)
  /-- any other look at the written part -/
  | kb (f : PySem.W.Frag → Bool)
def Fx.ok (K : PySem.W.Frag) : Fx → Bool
  | .glo x => (He.Fa.glo x).ok K
  | .free x => (He.Fa.free x).ok K
  | .dat x d => (match PySem.W.nsIn K mainGlobals x with
    | some (some u) => repB K d u
    | _ => false)
  | .fa f => f.ok K
  | .kb f => f K
theorem dat_ok {K : PySem.W.Frag} {h : Heap} {mg : Str → Option Value} (X : K.In h) (G : h.Ns mainGlobals mg) {x : Str} {d : D} (c : (Fx.dat x d).ok K = true) : ∃ u, mg x = some u ∧ ∃ v, RelV v u ∧ ∀ G H, RepV K G H d v := by
  have c2 : (match PySem.W.nsIn K mainGlobals x with
    | some (some u) => repB K d u
    | _ => false) = true := c
  cases e : PySem.W.nsIn K mainGlobals x with
  | none => rw [e] at c2; cases c2
  | some o =>
    rw [e] at c2
    cases o with
    | none => cases c2
    | some u => exact ⟨u, PySem.W.mg_of X G e, repB_ok c2⟩
def obsX (fx : List Fx) (fn : List He.DefD) (K : PySem.W.Frag) : He.AlD := ((fx.all fun f => f.ok K) && fn.all fun d => d.ok K, fn.map fun d => He.fnW K d.at_)
def SaysX (fx : List Fx) (fn : List He.DefD) (K : PySem.W.Frag) : Prop := obsX fx fn K = He.valD fn
section
variable {fx : List Fx} {fn : List He.DefD} {K : PySem.W.Frag}
theorem SaysX.fact (c : SaysX fx fn K) (i : Nat) {f : Fx} (h : fx[i]? = some f := by rfl) : f.ok K = true := by
  have c1 := (He.ba (show ((fx.all fun f => f.ok K) && fn.all fun d => d.ok K) = true from congrArg (fun z : He.AlD => z.1) c)).1
  exact List.all_eq_true.mp c1 f (List.mem_of_getElem? h)
theorem SaysX.def_ (c : SaysX fx fn K) (i : Nat) {d : He.DefD} (h : fn[i]? = some d := by rfl) : ∃ fd, FunD K d.name d.qual d.params d.body d.scope (d.dvs K) (d.kws K) (He.fAd K d.at_) fd := by
  have c2 := (He.ba (show ((fx.all fun f => f.ok K) && fn.all fun d => d.ok K) = true from congrArg (fun z : He.AlD => z.1) c)).2
  have e : fn.map (fun d => He.fnW K d.at_) = fn.map He.DefD.val := congrArg (fun z : He.AlD => z.2) c
  have e2 : (fn.map fun d => He.fnW K d.at_)[i]? = (fn.map He.DefD.val)[i]? := by rw [e]
  rw [List.getElem?_map, List.getElem?_map, h] at e2
  exact He.DefD.funD (Option.some.inj e2) (List.all_eq_true.mp c2 d (List.mem_of_getElem? h))
end
end Dl

namespace Dl
open PySem L2
@[simp] theorem ofString_inj {a b : String} : (Str.ofString a = Str.ofString b) ↔ a = b := by
  rw [Str.ofString_eq_toList, Str.ofString_eq_toList]
  constructor
  · intro h
    have h1 : (a.toList.map Char.toNat).toArray = (b.toList.map Char.toNat).toArray := by injection h
    have h2 : a.toList.map Char.toNat = b.toList.map Char.toNat := by injection h1
    have h3 : a.toList = b.toList := by
      refine List.map_inj_right (f := Char.toNat) ?_ |>.mp h2
      intro x y e
      exact Char.ext (UInt32.toNat_inj.mp e)
    exact String.toList_inj.mp h3
  · rintro rfl; rfl
def Grow (G G' : GH) : Prop := ∀ a o, G a = some o → G' a = some o
theorem Grow.refl (G : GH) : Grow G G := fun _ _ h => h
theorem Grow.trans {G G1 G2 : GH} (h : Grow G G1) (k : Grow G1 G2) : Grow G G2 := fun a o e => k a o (h a o e)
theorem Grow.upd {G : GH} {p : Addr} {o : DO} (h : G p = none) : Grow G (updG G p o) := fun a u e => by
  rw [updG_ne]; exact e
  rintro rfl; rw [h] at e; cases e
theorem Grow.upd2 {G G' : GH} {p : Addr} {o : DO} (h : G p = none) (k : Grow G G') : Grow G (updG G' p o) := fun a u e => by
  rw [updG_ne]; exact k a u e
  rintro rfl; rw [h] at e; cases e
theorem Grow.drop {G G' : GH} {p : Addr} (h : G p = none) (k : Grow G G') : Grow G (dropG G' p) := fun a u e => by
  rw [dropG_ne]; exact k a u e
  rintro rfl; rw [h] at e; cases e
def pSp (R : List D → D → Prop) : DSp := fun ds G Q _ => ∃ d, R ds d ∧ ∀ G', Grow G G' → Q d G'
theorem dWhile_of {c : DTT} {tb : DTS} {E : DEnds} {I : Nat → DSt → GH → Prop}
    (h : ∀ n ρ G, I n ρ G → ∀ K : DSt → GH → Prop, (∀ m, m + 1 = n → ∀ ρ' G', I m ρ' G' → K ρ' G') → c ρ G fun b G1 => if b = true then tb { E with nx := K, ct := K, bk := E.nx } ρ G1 else E.nx ρ G1) :
    ∀ n ρ G, I n ρ G → dWhile c tb E ρ G := by
  have key : ∀ n ρ G, I n ρ G → dWhileGo c tb (n + 1) E ρ G := by
    intro n
    induction n with
    | zero => intro ρ G i; unfold dWhileGo; exact h 0 ρ G i _ (fun m e => by omega)
    | succ n ih =>
      intro ρ G i
      unfold dWhileGo
      refine h _ ρ G i _ ?_
      intro m e ρ' G' j
      have e2 : m = n := by omega
      subst e2
      exact ih ρ' G' j
  exact fun n ρ G i => ⟨n + 1, key n ρ G i⟩
theorem dForGo_of {ok : GH → Prop} {g : DTG} {tb : DTS} {E : DEnds} {I : List D → DSt → GH → Prop}
    (h0 : ∀ ρ G, I [] ρ G → ok G ∧ E.nx ρ G)
    (h : ∀ x xs ρ G, I (x :: xs) ρ G → ∀ K : DSt → GH → Prop, (∀ ρ' G', I xs ρ' G' → K ρ' G') → ok G ∧ g x ρ G fun ρ2 G2 => tb { E with nx := K, ct := K, bk := E.nx } ρ2 G2) :
    ∀ items ρ G, I items ρ G → dForGo ok g tb items E ρ G := by
  intro items
  induction items with
  | nil => intro ρ G i; unfold dForGo; exact h0 ρ G i
  | cons x xs ih => intro ρ G i; unfold dForGo; exact h x xs ρ G i _ ih
theorem dLcGo_of {ok : GH → Prop} {ct : CT} {te : DTE} {ρ : DSt} {p : Addr} {Q : DK} {I : List D → List D → GH → Prop}
    (h0 : ∀ acc G, I [] acc G → ok G ∧ Q (.ref p) G)
    (h : ∀ x xs acc G, I (x :: xs) acc G → ok G ∧ ∃ ρ2, bindC ct x ρ = some ρ2 ∧ ∀ K : DK, (∀ y G4, G4 p = some (.lst acc) → acc.length < sizeLine → I xs (acc ++ [y]) (updG G4 p (.lst (acc ++ [y]))) → K y G4) → te ρ2 G K) :
    ∀ items acc G, I items acc G → dLcGo ok ct dYes te ρ p items G Q := by
  intro items
  induction items with
  | nil => intro acc G i; unfold dLcGo; exact h0 acc G i
  | cons x xs ih =>
    intro acc G i
    unfold dLcGo
    obtain ⟨a, ρ2, e, k⟩ := h x xs acc G i
    refine ⟨a, ?_⟩
    rw [e]
    simp only [dYes, if_true]
    refine k _ ?_
    intro y G4 e4 hl j
    rw [e4]
    exact ⟨hl, ih _ _ j⟩
def PureE (te : DTE) (ct : CT) (ρ : DSt) (x y : D) : Prop := ∃ ρ2, bindC ct x ρ = some ρ2 ∧ ∀ (G : GH) (K : DK), (∀ G', Grow G G' → K y G') → te ρ2 G K
mutual
/-- plain data with ints of few digits -/
def smD : D → Bool
  | .non => true
  | .bl _ => true
  | .int i => decide (i.natAbs < 10 ^ 12)
  | .str x => PyData.strOk x
  | .tup ds => smDs ds
  | .lst ds => smDs ds
  | _ => false
def smDs : List D → Bool
  | [] => true
  | d :: ds => smD d && smDs ds
end
mutual
def wtD : D → Nat
  | .str x => x.length
  | .int _ => 40
  | .tup ds => wtDs ds
  | .lst ds => wtDs ds
  | _ => 0
def wtDs : List D → Nat
  | [] => 0
  | d :: ds => wtD d + 1 + wtDs ds
end
mutual
theorem sm_pure : ∀ d : D, smD d = true → pureD d = true
  | .non, _ => by simp [pureD]
  | .bl _, _ => by simp [pureD]
  | .int _, _ => by simp [pureD]
  | .str x, h => by simpa [pureD, smD] using h
  | .tup ds, h => by simpa [pureD] using sms_pure ds (by simpa [smD] using h)
  | .lst ds, h => by simpa [pureD] using sms_pure ds (by simpa [smD] using h)
  | .byt _, h => by simp [smD] at h
  | .ref _, h => by simp [smD] at h
  | .scr _, h => by simp [smD] at h
  | .fn _ _ _ _, h => by simp [smD] at h
  | .exh _ _ _ _ _, h => by simp [smD] at h
theorem sms_pure : ∀ ds : List D, smDs ds = true → pureDs ds = true
  | [], _ => by simp [pureDs]
  | d :: ds, h => by
    simp only [smDs, Bool.and_eq_true] at h
    simp [pureDs, sm_pure d h.1, sms_pure ds h.2]
end
theorem log_small {i : Int} (h : i.natAbs < 10 ^ 12) : i.natAbs.log2 < 40 := by
  by_cases e : i.natAbs = 0
  · rw [e]; decide
  · exact (Nat.log2_lt e).mpr (Nat.lt_of_lt_of_le h (by decide))
mutual
theorem sm_few : ∀ d : D, smD d = true → fewD d = true
  | .non, _ => by simp [fewD]
  | .bl _, _ => by simp [fewD]
  | .int i, h => by
    simp only [smD, decide_eq_true_eq] at h
    have := log_small h
    simp only [fewD, decide_eq_true_eq]
    omega
  | .str x, h => by simp [fewD]
  | .tup ds, h => by simpa [fewD] using sms_few ds (by simpa [smD] using h)
  | .lst ds, h => by simpa [fewD] using sms_few ds (by simpa [smD] using h)
  | .byt _, h => by simp [smD] at h
  | .ref _, h => by simp [smD] at h
  | .scr _, h => by simp [smD] at h
  | .fn _ _ _ _, h => by simp [smD] at h
  | .exh _ _ _ _ _, h => by simp [smD] at h
theorem sms_few : ∀ ds : List D, smDs ds = true → fewDs ds = true
  | [], _ => by simp [fewDs]
  | d :: ds, h => by
    simp only [smDs, Bool.and_eq_true] at h
    simp [fewDs, sm_few d h.1, sms_few ds h.2]
end
mutual
theorem sm_short : ∀ d : D, smD d = true → (pyD d).intsShort 13 = true
  | .non, _ => by simp [pyD, PyData.intsShort]
  | .bl _, _ => by simp [pyD, PyData.intsShort]
  | .int i, h => by
    simp only [smD, decide_eq_true_eq] at h
    simp only [pyD, PyData.intsShort, decide_eq_true_eq]
    exact PyData.shown_int_le h
  | .str x, h => by simp [pyD, PyData.intsShort]
  | .tup ds, h => by simpa [pyD, PyData.intsShort] using sms_short ds (by simpa [smD] using h)
  | .lst ds, h => by simpa [pyD, PyData.intsShort] using sms_short ds (by simpa [smD] using h)
  | .byt _, h => by simp [smD] at h
  | .ref _, h => by simp [smD] at h
  | .scr _, h => by simp [smD] at h
  | .fn _ _ _ _, h => by simp [smD] at h
  | .exh _ _ _ _ _, h => by simp [smD] at h
theorem sms_short : ∀ ds : List D, smDs ds = true → PyData.intsShortAll 13 (pyDs ds) = true
  | [], _ => by simp [pyDs, PyData.intsShortAll]
  | d :: ds, h => by
    simp only [smDs, Bool.and_eq_true] at h
    simp [pyDs, PyData.intsShortAll, sm_short d h.1, sms_short ds h.2]
end
mutual
theorem sm_weight : ∀ d : D, smD d = true → (pyD d).weight ≤ wtD d
  | .non, _ => by simp [pyD, PyData.weight]
  | .bl _, _ => by simp [pyD, PyData.weight]
  | .int i, h => by
    simp only [smD, decide_eq_true_eq] at h
    have := log_small h
    simp only [pyD, PyData.weight, wtD]
    split <;> omega
  | .str x, h => by simp [pyD, PyData.weight, wtD, Str.length]
  | .tup ds, h => by simpa [pyD, PyData.weight, wtD] using sms_weight ds (by simpa [smD] using h)
  | .lst ds, h => by simpa [pyD, PyData.weight, wtD] using sms_weight ds (by simpa [smD] using h)
  | .byt _, h => by simp [smD] at h
  | .ref _, h => by simp [smD] at h
  | .scr _, h => by simp [smD] at h
  | .fn _ _ _ _, h => by simp [smD] at h
  | .exh _ _ _ _ _, h => by simp [smD] at h
theorem sms_weight : ∀ ds : List D, smDs ds = true → PyData.weightAll (pyDs ds) ≤ wtDs ds
  | [], _ => by simp [pyDs, PyData.weightAll]
  | d :: ds, h => by
    simp only [smDs, Bool.and_eq_true] at h
    have h1 := sm_weight d h.1
    have h2 := sms_weight ds h.2
    simp only [pyDs, PyData.weightAll, wtDs]
    omega
end
theorem okD_of {d : D} (h : smD d = true) (k : depD d ≤ 64) : okD d := ⟨sm_pure d h, k⟩
theorem shw_of {d : D} (hs : isSeqD d = true) (h : smD d = true) (k : depD d ≤ 64) (z : wtD d ≤ 2 ^ 20) : Shw d := by
  refine ⟨hs, okD_of h k, sm_few d h, ?_⟩
  have e := sm_weight d h
  have hl : PyData.layable0 (pyD d) = true := by
    unfold PyData.layable0
    rw [lay_py d (sm_pure d h), depth_py, decide_eq_true k, decide_eq_true (by omega)]
    rfl
  have := PyProof.Rows.shown_le13 hl (sm_short d h)
  unfold shD
  have e2 : sizeLine = 16777216 := by decide
  omega
theorem ixN_at {n j : Nat} (hj : j < n) : ixN n (j : Int) = some j := by
  unfold ixN
  rw [if_pos (Int.natCast_nonneg j), if_pos (by omega)]
  simp
theorem atI_nat {α : Type} {xs : List α} {i : Nat} {x : α} (h : xs[i]? = some x) : atI xs (i : Int) = some x := by
  have hl : i < xs.length := by
    rcases Nat.lt_or_ge i xs.length with q | q
    · exact q
    · rw [List.getElem?_eq_none q] at h; cases h
  unfold atI
  rw [ixN_at hl]
  exact h
@[simp] theorem atI_0 {α : Type} {x : α} {xs : List α} : atI (x :: xs) 0 = some x := atI_nat (i := 0) rfl
@[simp] theorem atI_1 {α : Type} {x y : α} {xs : List α} : atI (x :: y :: xs) 1 = some y := atI_nat (i := 1) rfl
@[simp] theorem atI_2 {α : Type} {x y z : α} {xs : List α} : atI (x :: y :: z :: xs) 2 = some z := atI_nat (i := 2) rfl
@[simp] theorem atI_3 {α : Type} {x y z u : α} {xs : List α} : atI (x :: y :: z :: u :: xs) 3 = some u := atI_nat (i := 3) rfl
@[simp] theorem atI_4 {α : Type} {x y z u v : α} {xs : List α} : atI (x :: y :: z :: u :: v :: xs) 4 = some v := atI_nat (i := 4) rfl
end Dl

namespace Dl
open PySem L2
inductive Wk where
  | tick (n : Int)
  | sme (a b : Int) (t : Bool)
  | lop (a b : Int) (t : Bool) (w : Wk)
  | eit (ws : List Wk)
  | row (ws : List Wk)
  | bes (a b : Wk)
mutual
def toD : Wk → D
  | .tick n => .tup [.str "tick", .int n]
  | .sme a b t => .tup [.str "some", .int a, .int b, .bl t]
  | .lop a b t w => .tup [.str "loop", .int a, .int b, .bl t, toD w]
  | .eit ws => .tup [.str "either", .tup (toDs ws)]
  | .row ws => .tup [.str "row", .tup (toDs ws)]
  | .bes a b => .tup [.str "beside", toD a, toD b]
def toDs : List Wk → List D
  | [] => []
  | w :: ws => toD w :: toDs ws
end
theorem toDs_map : ∀ ws : List Wk, toDs ws = ws.map toD
  | [] => by simp [toDs]
  | w :: ws => by simp [toDs, toDs_map ws]
@[simp] theorem toDs_len (ws : List Wk) : (toDs ws).length = ws.length := by rw [toDs_map]; simp
theorem toDs_app (a b : List Wk) : toDs (a ++ b) = toDs a ++ toDs b := by simp [toDs_map]
inductive Sg where
  | tick
  | more
  | fin
  | many (n : Int)
  | way (i : Nat)
  | left (s : Sg)
  | right (s : Sg)
def sgD : Sg → D
  | .tick => .str "tick"
  | .more => .str "more"
  | .fin => .str "end"
  | .many n => .tup [.str "many", .int n]
  | .way i => .tup [.str "way", .int (i : Nat)]
  | .left s => .tup [.str "left", sgD s]
  | .right s => .tup [.str "right", sgD s]
mutual
/-- numbers from 0 to B, in order; ticks at least 1; a way at least -/
def okW (B : Int) : Wk → Prop
  | .tick n => 1 ≤ n ∧ n ≤ B
  | .sme a b _ => 0 ≤ a ∧ a ≤ b ∧ b ≤ B
  | .lop a b _ w => 0 ≤ a ∧ a ≤ b ∧ b ≤ B ∧ okW B w
  | .eit ws => ws ≠ [] ∧ okWs B ws
  | .row ws => okWs B ws
  | .bes a b => okW B a ∧ okW B b
def okWs (B : Int) : List Wk → Prop
  | [] => True
  | w :: ws => okW B w ∧ okWs B ws
end
mutual
/-- the most that may stand there at once, loops unrolled -/
def zW : Wk → Nat
  | .tick _ => 2
  | .sme _ _ _ => 2
  | .lop _ b _ w => 2 + (b.toNat + 1) * (zW w + 1)
  | .eit ws => 1 + zWs ws
  | .row ws => 1 + zWs ws
  | .bes a b => 1 + zW a + zW b
def zWs : List Wk → Nat
  | [] => 0
  | w :: ws => zW w + zWs ws
end
mutual
/-- tuples within one another -/
def dpW : Wk → Nat
  | .tick _ => 1
  | .sme _ _ _ => 1
  | .lop _ _ _ w => 1 + dpW w
  | .eit ws => 2 + dpWs ws
  | .row ws => 2 + dpWs ws
  | .bes a b => 1 + max (dpW a) (dpW b)
def dpWs : List Wk → Nat
  | [] => 0
  | w :: ws => max (dpW w) (dpWs ws)
end
mutual
def pW : Wk → Nat
  | .tick _ => 3
  | .sme _ _ _ => 3
  | .lop _ _ _ w => 3 + max (dpW w) (pW w)
  | .eit ws => 4 + max (dpWs ws) (pWs ws)
  | .row ws => pWs ws
  | .bes a b => 3 + max (pW a) (pW b)
def pWs : List Wk → Nat
  | [] => 2
  | w :: ws => max (pW w) (pWs ws)
end
structure Bh (B : Int) (w v : Wk) : Prop where
  ok : okW B v
  z : zW v ≤ zW w
  dp : dpW v ≤ dpW w + 2
  p : pW v ≤ pW w
end Dl

namespace Dl
open PySem L2
theorem smDs_iff : ∀ {ds : List D}, smDs ds = true ↔ ∀ d ∈ ds, smD d = true
  | [] => by simp [smDs]
  | d :: ds => by simp [smDs, smDs_iff (ds := ds)]
theorem depDs_le : ∀ {ds : List D} {n : Nat}, (∀ d ∈ ds, depD d ≤ n) → depDs ds ≤ n
  | [], n, _ => by simp [depDs]
  | d :: ds, n, h => by
    have h1 := h d (List.mem_cons_self ..)
    have h2 := depDs_le fun x hx => h x (List.mem_cons_of_mem _ hx)
    rw [depDs]; omega
theorem so_tick : PyData.strOk "tick" = true := by decide +kernel
theorem so_some : PyData.strOk "some" = true := by decide +kernel
theorem so_loop : PyData.strOk "loop" = true := by decide +kernel
theorem so_either : PyData.strOk "either" = true := by decide +kernel
theorem so_row : PyData.strOk "row" = true := by decide +kernel
theorem so_beside : PyData.strOk "beside" = true := by decide +kernel
theorem sl_tick : Str.length "tick" = 4 := by decide +kernel
theorem sl_some : Str.length "some" = 4 := by decide +kernel
theorem sl_loop : Str.length "loop" = 4 := by decide +kernel
theorem sl_either : Str.length "either" = 6 := by decide +kernel
theorem sl_row : Str.length "row" = 3 := by decide +kernel
theorem sl_beside : Str.length "beside" = 6 := by decide +kernel
theorem small12 {B n : Int} (hB : B ≤ 999) (h : 0 ≤ n) (k : n ≤ B) : decide (n.natAbs < 10 ^ 12) = true := by
  rw [decide_eq_true_eq]
  have e : (10 : Nat) ^ 12 = 1000000000000 := by decide
  omega
mutual
theorem sm_toD {B : Int} (hB : B ≤ 999) : ∀ w : Wk, okW B w → smD (toD w) = true
  | .tick n, h => by
    rw [okW] at h
    simp only [toD, smD, smDs, so_tick, small12 hB (show 0 ≤ n by omega) h.2, Bool.and_true]
  | .sme a b t, h => by
    rw [okW] at h
    simp only [toD, smD, smDs, so_some, small12 hB h.1 (show a ≤ B by omega), small12 hB (show 0 ≤ b by omega) h.2.2, Bool.and_true]
  | .lop a b t w, h => by
    rw [okW] at h
    simp only [toD, smD, smDs, so_loop, small12 hB h.1 (show a ≤ B by omega), small12 hB (show 0 ≤ b by omega) h.2.2.1, sm_toD hB w h.2.2.2, Bool.and_true]
  | .eit ws, h => by
    rw [okW] at h
    simp only [toD, smD, smDs, so_either, sm_toDs hB ws h.2, Bool.and_true]
  | .row ws, h => by
    rw [okW] at h
    simp only [toD, smD, smDs, so_row, sm_toDs hB ws h, Bool.and_true]
  | .bes a b, h => by
    rw [okW] at h
    simp only [toD, smD, smDs, so_beside, sm_toD hB a h.1, sm_toD hB b h.2, Bool.and_true]
theorem sm_toDs {B : Int} (hB : B ≤ 999) : ∀ ws : List Wk, okWs B ws → smDs (toDs ws) = true
  | [], _ => by simp [toDs, smDs]
  | w :: ws, h => by
    rw [okWs] at h
    simp only [toDs, smDs, sm_toD hB w h.1, sm_toDs hB ws h.2, Bool.and_true]
end
mutual
theorem dep_toD : ∀ w : Wk, depD (toD w) = dpW w
  | .tick n => by simp [toD, depD, depDs, dpW]
  | .sme a b t => by simp [toD, depD, depDs, dpW]
  | .lop a b t w => by simp [toD, depD, depDs, dpW, dep_toD w]; omega
  | .eit ws => by simp [toD, depD, depDs, dpW, dep_toDs ws]; omega
  | .row ws => by simp [toD, depD, depDs, dpW, dep_toDs ws]; omega
  | .bes a b => by simp [toD, depD, depDs, dpW, dep_toD a, dep_toD b]; omega
theorem dep_toDs : ∀ ws : List Wk, depDs (toDs ws) = dpWs ws
  | [] => by simp [toDs, depDs, dpWs]
  | w :: ws => by simp [toDs, depDs, dpWs, dep_toD w, dep_toDs ws]
end
structure SgOk (s : Sg) (n : Nat) : Prop where
  sm : smD (sgD s) = true
  dp : depD (sgD s) ≤ n + 1
  wt : wtD (sgD s) ≤ 46 + 7 * n
end Dl

namespace Dl
open PySem L2
section
variable {t u : DTS} {E : DEnds} {ρ : DSt} {G : GH} {Q : DK} {c : DTT} {te ta tb : DTE} {tl tr : DTA}
theorem iSeq (h : t { E with nx := u E } ρ G) : dSeq t u E ρ G := h
theorem iNext (h : E.nx ρ G) : dNext E ρ G := h
theorem iIfS (h : c ρ G fun b G1 => if b = true then t E ρ G1 else u E ρ G1) : dIfS c t u E ρ G := h
theorem iRet (h : te ρ G E.rt) : dRet te E ρ G := h
theorem iDrop (h : te ρ G fun _ G1 => E.nx ρ G1) : dDrop te E ρ G := h
theorem iAsg {g : DTG} (h : te ρ G fun x G1 => g x ρ G1 E.nx) : dAsg te g E ρ G := h
theorem iPar {i j : Nat} (h : tl ρ G fun ds G1 => match ds with
  | [v, w] => E.nx ((ρ.set i (some v)).set j (some w)) G1
  | _ => False) : dPar i j tl E ρ G := h
theorem iGNm {i : Nat} {d : D} {Qg : DSt → GH → Prop} (h : Qg (ρ.set i (some d)) G) : gNm i d ρ G Qg := h
theorem iGTp {n : Nat} {t : DTGs} {ds : List D} {Qg : DSt → GH → Prop} (e : ds.length = n) (h : t ds ρ G Qg) : gTp n t (.tup ds) ρ G Qg := ⟨e, h⟩
theorem iGsCons {t : DTG} {u : DTGs} {d : D} {ds : List D} {Qg : DSt → GH → Prop} (h : t d ρ G fun ρ1 G1 => u ds ρ1 G1 Qg) : gsCons t u (d :: ds) ρ G Qg := h
theorem iGsNil {Qg : DSt → GH → Prop} (h : Qg ρ G) : gsNil [] ρ G Qg := h
theorem iGSb {to ti : DTE} {st : DSet} {d : D} {Qg : DSt → GH → Prop} (h : to ρ G fun o G1 => ti ρ G1 fun i G2 => st o i d G2 fun G3 => Qg ρ G3) : gSb to ti st d ρ G Qg := h
theorem iVar {i : Nat} {d : D} (e : sl ρ i = some d) (h : Q d G) : dVar i ρ G Q := by unfold dVar; rw [e]; exact h
theorem iC {d : D} (h : Q d G) : dC d ρ G Q := h
theorem iNil {Ql : List D → GH → Prop} (h : Ql [] G) : dNil ρ G Ql := h
theorem iCons {Ql : List D → GH → Prop} (h : ta ρ G fun x G1 => tr ρ G1 fun xs G2 => Ql (x :: xs) G2) : dCons ta tr ρ G Ql := h
theorem iTup (h : tl ρ G fun xs G1 => xs.length ≤ sizeLine ∧ Q (.tup xs) G1) : dTup tl ρ G Q := h
theorem iLst (h : tl ρ G fun xs G1 => xs.length ≤ sizeLine ∧ ∀ p, G1 p = none → Q (.ref p) (updG G1 p (.lst xs))) : dLst tl ρ G Q := h
theorem lenOk {P : Prop} {n : Nat} (e : n.ble sizeLine = true) (h : P) : n ≤ sizeLine ∧ P := ⟨Nat.le_of_ble_eq_true e, h⟩
def frzK (Q : DK) : DK := fun d G1 => match d with
  | .ref p => (match G1 p with
    | some (.lst ds) => Q (.lst ds) (dropG G1 p)
    | _ => Q (.ref p) G1)
  | d => Q d G1
theorem iFrz (h : te ρ G (frzK Q)) : dFrz te ρ G Q := h
theorem frzEnd {G : GH} {xs : List D} {Q : DK} (h : Q (.lst xs) G) : ∀ p, G p = none → frzK Q (.ref p) (updG G p (.lst xs)) := by
  intro p hp
  unfold frzK
  dsimp only
  rw [updG_same]
  dsimp only
  rw [dropG_updG hp]
  exact h
theorem frzR {xs : List D} {p : Addr} (e : G p = some (.lst xs)) (h : Q (.lst xs) (dropG G p)) : frzK Q (.ref p) G := by
  unfold frzK
  dsimp only
  rw [e]
  exact h
theorem iOp {r : DR2} (h : ta ρ G fun x G1 => tb ρ G1 fun y G2 => r x y G2 Q) : dOp r ta tb ρ G Q := h
theorem iTst {Qb : Bool → GH → Prop} (h : te ρ G fun d G1 => match d with
  | .bl b => Qb b G1
  | _ => False) : dTst te ρ G Qb := h
theorem iTru {Qb : Bool → GH → Prop} (h : te ρ G fun d G1 => truP G1 d fun b => Qb b G1) : dTru te ρ G Qb := h
theorem iAnd {v w : DTT} {Qb : Bool → GH → Prop} (h : v ρ G fun c G1 => if c = true then w ρ G1 Qb else Qb false G1) : dAnd v w ρ G Qb := h
theorem iOr {v w : DTT} {Qb : Bool → GH → Prop} (h : v ρ G fun c G1 => if c = true then Qb true G1 else w ρ G1 Qb) : dOr v w ρ G Qb := h
theorem iNot {v : DTT} {Qb : Bool → GH → Prop} (h : v ρ G fun c G1 => Qb (!c) G1) : dNot v ρ G Qb := h
theorem iNotV (h : ta ρ G fun x G1 => match x with
  | .bl b => Q (.bl (!b)) G1
  | _ => False) : dNotV ta ρ G Q := h
theorem iIf (h : c ρ G fun b G1 => if b = true then ta ρ G1 Q else tb ρ G1 Q) : dIf c ta tb ρ G Q := h
theorem ifT {A B : Prop} (h : A) : if (true : Bool) = true then A else B := by rw [if_pos rfl]; exact h
theorem ifF {A B : Prop} (h : B) : if (false : Bool) = true then A else B := by rw [if_neg (by decide)]; exact h
theorem ifD {A B : Prop} {p : Prop} [Decidable p] (h1 : p → A) (h2 : ¬ p → B) : if (decide p) = true then A else B := by
  by_cases h : p
  · rw [if_pos (decide_eq_true h)]; exact h1 h
  · rw [if_neg (by simpa using h)]; exact h2 h
theorem iCall {sp : DSp} (h : tl ρ G fun ds G1 => sp ds G1 Q noX) : dCall sp tl ρ G Q := h
theorem iCB {r : DRC} (h : tl ρ G fun ds G1 => r ds G1 Q) : dCB r tl ρ G Q := h
theorem iMt {r : DRM} {to : DTE} (h : to ρ G fun x G1 => lstP G1 x fun _ _ => tl ρ G1 fun ds G2 => r x ds G2 Q) : dMt r to tl ρ G Q := h
theorem iSl {lo hi : DTO} (h : te ρ G fun x G1 => lo ρ G1 fun l G2 => hi ρ G2 fun u G3 => rSl x l u G3 Q) : dSl te lo hi ρ G Q := h
theorem iP {Qo : Option Int → GH → Prop} (h : te ρ G fun d G1 => match d with
  | .int i => Qo (some i) G1
  | _ => False) : dP te ρ G Qo := h
theorem iNoP {Qo : Option Int → GH → Prop} (h : Qo none G) : dNoP ρ G Qo := h
theorem iStar {Ql : List D → GH → Prop} (h : te ρ G fun x G1 => match sqOf G1 x with
  | some l => tr ρ G1 fun r G2 => Ql (l ++ r) G2
  | none => False) : dStar te tr ρ G Ql := h
def getKK (Q : DK) (G : GH) (kvs : List (Key × D)) (k : Key) : Prop := match getK kvs k with
  | some d => Q d G
  | none => False
theorem iDGet (h : ta ρ G fun x G1 => tb ρ G1 fun y G2 => dctP G2 x fun _ kvs => keyP y fun k => getKK Q G2 kvs k) : dDGet ta tb ρ G Q := h
theorem getK_i {kvs : List (Key × D)} {k : Key} {d : D} (e : getK kvs k = some d) (h : Q d G) : getKK Q G kvs k := by unfold getKK; rw [e]; exact h
def isiK (T : String) (Q : DK) : DK := fun d G1 => match tyD G1 d with
  | some s => Q (.bl (subT s T)) G1
  | none => False
theorem iIsi {T : String} (h : te ρ G (isiK T Q)) : dIsi T te ρ G Q := h
theorem isi_i {T : String} {d : D} {s : String} {b : Bool} (e : tyD G d = some s) (e2 : subT s T = b) (h : Q (.bl b) G) : isiK T Q d G := by unfold isiK; rw [e]; dsimp only; rw [e2]; exact h
theorem isi_T {T : String} {d : D} {s : String} (e : tyD G d = some s) (e2 : subT s T = true) (h : Q (.bl true) G) : isiK T Q d G := isi_i e e2 h
theorem isi_F {T : String} {d : D} {s : String} (e : tyD G d = some s) (e2 : subT s T = false) (h : Q (.bl false) G) : isiK T Q d G := isi_i e e2 h
theorem iFor {wi : DTI} {g : DTG} (h : wi ρ G fun items ok G1 => dForGo ok g t items E ρ G1) : dFor wi g t E ρ G := h
theorem iISq {Qi : List D → (GH → Prop) → GH → Prop} (h : te ρ G fun d G1 => match d with
  | .tup ds => Qi ds okAll G1
  | .lst ds => Qi ds okAll G1
  | .ref a => (match G1 a with
    | some (.lst ds) => Qi ds (fun G => G a = some (.lst ds)) G1
    | _ => False)
  | _ => False) : iSq te ρ G Qi := h
theorem iLc {wi : DTI} {ct : CT} {tt : DTT} {vs : List Nat} (h : wi ρ G fun items ok G1 => ∀ p, G1 p = none → dLcGo ok ct tt te (wipeD ρ vs) p items (updG G1 p (.lst [])) Q) : dLc wi ct tt te vs ρ G Q := h
theorem rIx_i {x d : D} {ds : List D} {i : Int} (e : sqOf G x = some ds) (e2 : atI ds i = some d) (h : Q d G) : rIx x (.int i) G Q := by
  unfold rIx; dsimp only; rw [e]; dsimp only; rw [e2]; exact h
theorem eq_ii {a b : Int} (h : Q (.bl (decide (a = b))) G) : rCmp id (.int a) (.int b) G Q := h
theorem eq_tt {a b : List D} (h1 : okD (.tup a)) (h2 : okD (.tup b)) (h : Q (.bl (eqvD (.tup a) (.tup b))) G) : rCmp id (.tup a) (.tup b) G Q := ⟨h1, h2, h⟩
theorem ne_ll {a b : List D} (h1 : okD (.lst a)) (h2 : okD (.lst b)) (h : Q (.bl (!eqvD (.lst a) (.lst b))) G) : rCmp not (.lst a) (.lst b) G Q := ⟨h1, h2, h⟩
theorem eq_strT {a : Str} (h : Q (.bl true) G) : rCmp id (.str a) (.str a) G Q := by
  have : Q (.bl (decide (a = a))) G := by rw [decide_eq_true rfl]; exact h
  exact this
theorem eq_strF {a b : String} (e : (a == b) = false) (h : Q (.bl false) G) : rCmp id (.str (Str.ofString a)) (.str (Str.ofString b)) G Q := by
  have : Q (.bl (decide (Str.ofString a = Str.ofString b))) G := by rw [decide_eq_false (by rw [ofString_inj]; simpa using e)]; exact h
  exact this
theorem ne_strT {a : Str} (h : Q (.bl false) G) : rCmp not (.str a) (.str a) G Q := by
  have : Q (.bl (!decide (a = a))) G := by rw [decide_eq_true rfl]; exact h
  exact this
theorem add_ii {i j : Int} (h : Q (.int (i + j)) G) : rAdd (.int i) (.int j) G Q := h
theorem add_tt {a b : List D} (e : a.length + b.length ≤ sizeLine) (h : Q (.tup (a ++ b)) G) : rAdd (.tup a) (.tup b) G Q := ⟨e, h⟩
theorem slT {ds : List D} {lo hi : Option Int} (h : Q (.tup (cutD ds lo hi)) G) : rSl (.tup ds) lo hi G Q := h
theorem slS {ns : List Int} {lo hi : Option Int} (h : ∀ p, G p = none → Q (.ref p) (updG G p (.lst (cutD (ns.map D.int) lo hi)))) : rSl (.scr ns) lo hi G Q := h
theorem int2 {C : Int → Int → Prop} {f : Int → Int → D} {i j : Int} (e : C i j) (h : Q (f i j) G) : rInt C f (.int i) (.int j) G Q := ⟨e, h⟩
theorem int0 {f : Int → Int → D} {i j : Int} (h : Q (f i j) G) : rInt0 f (.int i) (.int j) G Q := h
theorem mul_ii {i j : Int} (e : CMul i j) (h : Q (.int (i * j)) G) : rMul (.int i) (.int j) G Q := ⟨e, h⟩
theorem len_t {l : List D} (h : Q (.int l.length) G) : rLen [.tup l] G Q := h
theorem len_l {l : List D} (h : Q (.int l.length) G) : rLen [.lst l] G Q := h
theorem len_r {l : List D} {a : Addr} (e : G a = some (.lst l)) (h : Q (.int l.length) G) : rLen [.ref a] G Q := by unfold rLen arg1; dsimp only; rw [e]; exact h
theorem tupC_l {l : List D} (h : Q (.tup l) G) : rTupC [.lst l] G Q := h
theorem lstC_t {l : List D} (h : ∀ p, G p = none → Q (.ref p) (updG G p (.lst l))) : rLstC [.tup l] G Q := h
theorem lstC_l {l : List D} (h : ∀ p, G p = none → Q (.ref p) (updG G p (.lst l))) : rLstC [.lst l] G Q := h
theorem intC_i {i : Int} (h : Q (.int i) G) : rIntC [.int i] G Q := h
theorem min2_ii {i j : Int} (h : Q (.int (if j < i then j else i)) G) : rMin2 [.int i, .int j] G Q := h
theorem lstP_i {a : Addr} {l : List D} {P : Addr → List D → Prop} (e : G a = some (.lst l)) (h : P a l) : lstP G (.ref a) P := by unfold lstP; dsimp only; rw [e]; exact h
theorem dctP_i {a : Addr} {l : List (Key × D)} {P : Addr → List (Key × D) → Prop} (e : G a = some (.dct l)) (h : P a l) : dctP G (.ref a) P := by unfold dctP; dsimp only; rw [e]; exact h
theorem keyP_s {x : Str} {P : Key → Prop} (h : P (.inr x)) : keyP (.str x) P := h
theorem app_i {a : Addr} {l : List D} {d : D} (e : G a = some (.lst l)) (z : l.length < sizeLine) (h : Q .non (updG G a (.lst (l ++ [d])))) : mAppend (.ref a) [d] G Q := lstP_i e ⟨z, h⟩
theorem ext_i {a : Addr} {l m : List D} {d : D} (e : G a = some (.lst l)) (e2 : sqOf G d = some m) (z : l.length + m.length ≤ sizeLine) (h : Q .non (updG G a (.lst (l ++ m)))) : mExtend (.ref a) [d] G Q := by
  refine lstP_i e ?_
  unfold arg1
  dsimp only
  rw [e2]
  exact ⟨z, h⟩
theorem pop_i {a : Addr} {l : List D} {d : D} (e : G a = some (.lst (l ++ [d]))) (h : Q d (updG G a (.lst l))) : mPop (.ref a) [] G Q := by
  refine lstP_i e ?_
  dsimp only
  rw [show (l ++ [d])[(l ++ [d]).length - 1]? = some d from by simp]
  dsimp only
  rw [List.dropLast_concat]
  exact h
theorem truB {b : Bool} {P : Bool → Prop} (h : P b) : truP G (.bl b) P := h
end
end Dl

namespace Dl
open PySem L2
theorem lc_map {α : Type} {ok : GH → Prop} {ct : CT} {te : DTE} {ρ : DSt} {p : Addr} {Q : DK} {g h : α → D} {xs : List α} {G : GH} (hp : G p = none) (hok : ∀ G, ok G) (hl : xs.length ≤ sizeLine) (hf : ∀ x ∈ xs, PureE te ct ρ (g x) (h x))
    (hq : ∀ G', Grow G G' → G' p = some (.lst (xs.map h)) → Q (.ref p) G') : dLcGo ok ct dYes te ρ p (xs.map g) (updG G p (.lst [])) Q := by
  refine dLcGo_of (I := fun rest acc G' => ∃ rs, rest = rs.map g ∧ acc ++ rs.map h = xs.map h ∧ (∀ x ∈ rs, x ∈ xs) ∧ Grow G G' ∧ G' p = some (.lst acc)) ?_ ?_ _ [] _ ⟨xs, rfl, rfl, fun _ h => h, Grow.upd hp, updG_same⟩
  · rintro acc G' ⟨rs, e0, e, -, gg, ep⟩
    cases rs with
    | cons => cases e0
    | nil =>
      refine ⟨hok _, hq _ gg ?_⟩
      rw [← e, List.map_nil, List.append_nil]
      exact ep
  · rintro x rest acc G' ⟨rs, e0, e, m, gg, ep⟩
    cases rs with
    | nil => cases e0
    | cons r rs =>
      injection e0 with e1 e2
      subst e1 e2
      obtain ⟨ρ2, e2, k⟩ := hf r (m r (List.mem_cons_self ..))
      refine ⟨hok _, ρ2, e2, fun K hK => k G' K fun G4 g4 => ?_⟩
      refine hK _ G4 (g4 _ _ ep) ?_ ⟨rs, rfl, ?_, fun y hy => m y (List.mem_cons_of_mem _ hy), Grow.upd2 hp (gg.trans g4), updG_same⟩
      · have := congrArg List.length e
        simp at this
        omega
      · rw [← e]; simp
theorem lcF {α : Type} (xs : List α) (g h : α → D) {wi : DTI} {ct : CT} {te : DTE} {ρ : DSt} {vs : List Nat} {G : GH} {Q : DK} (hw : ∀ P : List D → (GH → Prop) → GH → Prop, (∀ ok G1, (∀ G, ok G) → Grow G G1 → P (xs.map g) ok G1) → wi ρ G P)
    (hl : xs.length ≤ sizeLine) (hf : ∀ x ∈ xs, PureE te ct (wipeD ρ vs) (g x) (h x)) (hq : ∀ G', Grow G G' → Q (.lst (xs.map h)) G') : dLc wi ct dYes te vs ρ G (frzK Q) := by
  unfold dLc
  refine hw _ ?_
  intro ok G1 hok g1 p hp
  refine lc_map hp hok hl hf ?_
  intro G' gg e
  exact frzR e (hq _ (g1.trans (Grow.drop hp gg)))
section
variable {E : DEnds} {ρ : DSt} {G : GH} {Q : DK} {te ta tb : DTE} {tl : DTA} {Qi : List D → (GH → Prop) → GH → Prop}
theorem iIRg1 (h : tl ρ G fun ds G1 => match ds with
  | [.int j] => -(2 ^ 62) ≤ j ∧ j < 2 ^ 62 ∧ Qi (rngD 0 j.toNat) okAll G1
  | _ => False) : iRg1 tl ρ G Qi := h
theorem iIEnT (h : te ρ G fun d G1 => match d with
  | .tup ds => Qi (enumD ds) okAll G1
  | _ => False) : iEnT te ρ G Qi := h
theorem add_llb {a b : List D} (e : (a.length + b.length).ble sizeLine = true) (h : ∀ p, G p = none → Q (.ref p) (updG G p (.lst (a ++ b)))) : rAdd (.lst a) (.lst b) G Q := ⟨Nat.le_of_ble_eq_true e, h⟩
theorem add_ttb {a b : List D} (e : (a.length + b.length).ble sizeLine = true) (h : Q (.tup (a ++ b)) G) : rAdd (.tup a) (.tup b) G Q := ⟨Nat.le_of_ble_eq_true e, h⟩
end
@[simp] theorem rep_one {α : Type} (k : Nat) (x : α) : (List.replicate k [x]).flatten = List.replicate k x := by
  induction k with
  | zero => rfl
  | succ k ih => rw [List.replicate_succ, List.flatten_cons, ih, List.replicate_succ]; rfl
theorem rngD_map (lo : Int) (n : Nat) : rngD lo n = (List.range n).map fun i => D.int (lo + (i : Nat)) := rfl
theorem enumD_map (ds : List D) : enumD ds = (List.range ds.length).map fun i => D.tup [.int (i : Nat), ds.getD i .non] := rfl
end Dl

namespace Dl
open PySem L2
section
variable {E : DEnds} {ρ : DSt} {G : GH} {Q : DK} {te ta tb : DTE} {tl : DTA} {Qi : List D → (GH → Prop) → GH → Prop}
theorem inn_T {x y : D} {ds : List D} (e : sqOf G y = some ds) (h1 : flatD x = true) (h2 : ds.all flatD = true) (e3 : inD x ds = true) (h : Q (.bl true) G) : rInn id x y G Q := by
  unfold rInn; rw [e]; exact ⟨h1, h2, by rw [e3]; exact h⟩
theorem inn_F {x y : D} {ds : List D} (e : sqOf G y = some ds) (h1 : flatD x = true) (h2 : ds.all flatD = true) (e3 : inD x ds = false) (h : Q (.bl false) G) : rInn id x y G Q := by
  unfold rInn; rw [e]; exact ⟨h1, h2, by rw [e3]; exact h⟩
def dispK (Q : DK) (p : Addr) (ps : List (D × D)) (G2 : GH) : Prop := G2 p = some (.dct []) ∧ match keysD ps with
  | some kvs => kvs.length ≤ 15 ∧ Q (.ref p) (updG G2 p (.dct (mergeD [] kvs)))
  | none => False
theorem iDisp {trs : List (DTE × DTE)} (h : ∀ p, G p = none → dPairs trs ρ (updG G p (.dct [])) (dispK Q p)) : dDisp trs ρ G Q := h
theorem iPsN {Qp : List (D × D) → GH → Prop} (h : Qp [] G) : dPairs [] ρ G Qp := h
theorem iPsC {Qp : List (D × D) → GH → Prop} {r : List (DTE × DTE)} (h : ta ρ G fun x G1 => tb ρ G1 fun y G2 => dPairs r ρ G2 fun ps G3 => Qp ((x, y) :: ps) G3) : dPairs ((ta, tb) :: r) ρ G Qp := h
theorem dispEnd {p : Addr} {ps : List (D × D)} {kvs : List (Key × D)} (e : G p = some (.dct [])) (e2 : keysD ps = some kvs) (hl : kvs.length.ble 15 = true) (h : Q (.ref p) (updG G p (.dct (mergeD [] kvs)))) : dispK Q p ps G := by
  refine ⟨e, ?_⟩
  rw [e2]
  exact ⟨Nat.le_of_ble_eq_true hl, h⟩
end
end Dl

namespace Dl
open PySem L2
theorem seqC {t u : DTS} {E : DEnds} {ρ : DSt} {G : GH} (P : DSt → GH → Prop) (h1 : ∀ K : DSt → GH → Prop, (∀ ρ G, P ρ G → K ρ G) → t { E with nx := K } ρ G) (h2 : ∀ ρ G, P ρ G → u E ρ G) : dSeq t u E ρ G := h1 _ h2
theorem ifDT {A B p : Prop} [Decidable p] (h : p) (a : A) : if (decide p) = true then A else B := by rw [if_pos (decide_eq_true h)]; exact a
theorem ifDF {A B p : Prop} [Decidable p] (h : ¬ p) (b : B) : if (decide p) = true then A else B := by rw [if_neg (by simpa using h)]; exact b
theorem andT {A B : Prop} {p : Prop} [Decidable p] (h : p) (a : A) : (match D.bl (decide p) with
  | .bl true => A
  | .bl false => B
  | _ => False) := by rw [decide_eq_true h]; exact a
def andVK (tb : DTE) (ρ : DSt) (Q : DK) : DK := fun x G1 => match x with
  | .bl true => tb ρ G1 Q
  | .bl false => Q (.bl false) G1
  | _ => False
theorem iAndVK {ta tb : DTE} {ρ : DSt} {G : GH} {Q : DK} (h : ta ρ G (andVK tb ρ Q)) : dAndV ta tb ρ G Q := h
theorem andVT {tb : DTE} {ρ : DSt} {G : GH} {Q : DK} (h : tb ρ G Q) : andVK tb ρ Q (.bl true) G := h
theorem andVF {tb : DTE} {ρ : DSt} {G : GH} {Q : DK} (h : Q (.bl false) G) : andVK tb ρ Q (.bl false) G := h
theorem andVDT {tb : DTE} {ρ : DSt} {G : GH} {Q : DK} {p : Prop} [Decidable p] (h : p) (a : tb ρ G Q) : andVK tb ρ Q (.bl (decide p)) G := by rw [decide_eq_true h]; exact a
theorem rIx_r {a : Addr} {l : List D} {i : Int} {d : D} {G : GH} {Q : DK} (e : G a = some (.lst l)) (e2 : atI l i = some d) (h : Q d G) : rIx (.ref a) (.int i) G Q := rIx_i (ds := l) (by unfold sqOf; dsimp only; rw [e]) e2 h
theorem ifNT {A B : Prop} (h : B) : if (!true) = true then A else B := by rw [if_neg (by decide)]; exact h
theorem ifNF {A B : Prop} (h : A) : if (!false) = true then A else B := by rw [if_pos (by decide)]; exact h
theorem callee0 {P : Program} {w : World} {K : PySem.W.Frag} {mg : Str → Option Value} {base : Heap} {x qual : Str} {params : Arguments} {body : List Stmt} {scope : Scope} {f : Addr} {fd : FuncData} {ps : List Str} {sp : DSp}
    (F : FunD K x qual params body scope [] [] f fd) (hm : mg x = some (.ref f)) (h : ∀ ds G Q E, ¬ sp ds G Q E)
    (b1 : ∀ (kV doc pm : Value) (an : Option Addr) (cdv ct : Value) (us : List Value), us.length = ps.length → bindArgs (PySem.W.fnOf x qual params body scope .none kV doc pm an cdv ct) ⟨us, []⟩ = pure (ps.zip us))
    (b2 : ∀ (kV doc pm : Value) (an : Option Addr) (cdv ct : Value) (us : List Value), us.length = ps.length → bindArgs (PySem.W.fnOf x qual params body scope .none kV doc pm an cdv ct) ⟨[], ps.zip us⟩ = pure (ps.zip us)) : Callee P w K mg base 0 x ps sp :=
  callee_of F hm ⟨fun _ _ _ _ ⟨_, _, _, _, _, _, q, _⟩ => (h _ _ _ _ q).elim, fun _ _ _ _ _ _ _ _ _ _ _ _ _ _ ⟨_, _, _, _, _, _, q, _⟩ => (h _ _ _ _ q).elim⟩ b1 b2
end Dl

namespace Dl
open PySem L2
def pick1 {α : Type} (us its ws : List α) (q : Nat × Nat) : Option α := if q.1 = 0 then us[q.2]? else if q.1 = 1 then its[q.2]? else ws[q.2]?
def pick {α : Type} (src : List (Nat × Nat)) (us its ws : List α) : List α := match src with
  | [] => []
  | q :: r => (pick1 us its ws q).toList ++ pick r us its ws
structure CalleeG (P : Program) (w : World) (K : PySem.W.Frag) (mg : Str → Option Value) (base : Heap) (k : Nat) (x : Str) (n : Nat) (ks : List Str) (src : List (Nat × Nat)) (dv : List D) (sp : DSp) : Prop where
  ex : ∃ f fd ps, DFn P w K mg base k f fd ps sp ∧ mg x = some (.ref f) ∧ PySem.W.keepIn K (.ref f) = true ∧ ∃ (its : List Value) (dvs : List V), Vals dvs its ∧ (∀ G H, RepL K G H dv dvs) ∧
    ∀ (s : Shared) (us ws : List Value), K.In s.heap → us.length = n → ws.length = ks.length → BindsTo s fd ⟨us, ks.zip ws⟩ (ps.zip (pick src us its ws))
@[simp] def dCallG (sp : DSp) (n m : Nat) (src : List (Nat × Nat)) (dv : List D) (ta tk : DTA) : DTE := fun ρ G Q => ta ρ G fun ds G1 => tk ρ G1 fun es G2 => ds.length = n ∧ es.length = m ∧ sp (pick src ds dv es) G2 Q noX
section
variable {X : Cx} {k n : Nat} {x : Str} {ks : List Str} {src : List (Nat × Nat)} {dv : List D} {sp : DSp} {p pos : Pos} {e : Expr} {es : List Expr} {ta tk : DTA} {kws : List Keyword}
end
section
variable {P : Program} {w : World} {K : PySem.W.Frag} {mg : Str → Option Value} {base : Heap} {k n : Nat} {x qual : Str} {params : Arguments} {body : List Stmt} {scope : Scope} {f : Addr} {fd : FuncData} {ps ks : List Str} {src : List (Nat × Nat)} {sp : DSp}
end
end Dl

namespace Dl
open PySem L2
def bolsD : List D → Option (List Bool)
  | [] => some []
  | .bl b :: r => (bolsD r).map (b :: ·)
  | _ :: _ => none
theorem bolsD_of : ∀ {ds : List D} {bs : List Bool}, bolsD ds = some bs → ds = bs.map D.bl
  | [], bs, h => by simp [bolsD] at h; subst h; rfl
  | .bl b :: r, bs, h => by
    unfold bolsD at h
    cases e : bolsD r with
    | none => rw [e] at h; cases h
    | some l =>
      rw [e] at h
      simp at h
      subst h
      rw [bolsD_of e]; rfl
  | .non :: _, _, h => by simp [bolsD] at h
  | .int _ :: _, _, h => by simp [bolsD] at h
  | .str _ :: _, _, h => by simp [bolsD] at h
  | .byt _ :: _, _, h => by simp [bolsD] at h
  | .tup _ :: _, _, h => by simp [bolsD] at h
  | .lst _ :: _, _, h => by simp [bolsD] at h
  | .ref _ :: _, _, h => by simp [bolsD] at h
  | .scr _ :: _, _, h => by simp [bolsD] at h
@[simp] def bolsP (G : GH) (x : D) (P : List Bool → Prop) : Prop := match lsOf G x with
  | some ds => (match bolsD ds with
    | some bs => P bs
    | none => False)
  | none => False
@[simp] def rAllC : DRC := fun ds G Q => arg1 ds fun x => bolsP G x fun bs => Q (.bl (bs.all id)) G
theorem bols_pure : ∀ bs : List Bool, pureDs (bs.map D.bl) = true
  | [] => by simp [pureDs]
  | b :: bs => by simp [pureDs, pureD, bols_pure bs]
theorem bols_py : ∀ bs : List Bool, pyDs (bs.map D.bl) = bs.map PyData.bool
  | [] => by simp [pyDs]
  | b :: bs => by simp [pyDs, pyD, bols_py bs]
theorem bols_plain : ∀ bs : List Bool, PyData.plainAll (bs.map PyData.bool) = true
  | [] => by simp [PyData.plainAll]
  | b :: bs => by simp [PyData.plainAll, PyData.plain, bols_plain bs]
theorem bols_all : ∀ bs : List Bool, (bs.map PyData.bool).all PyData.truthy = bs.all id
  | [] => rfl
  | b :: bs => by simp [PyData.truthy, bols_all bs]
section
variable {X : Cx}
theorem c_all (hc : X.calm = true) : DCall X (.builtin "all") rAllC := by
  intro pins s σ H xs us Q I r ⟨G, ds, q, g, rl, h0, k⟩
  obtain ⟨d, rfl, h⟩ := arg1_of h0
  obtain ⟨x, rfl, rx⟩ := repL_1 rl
  unfold bolsP at h
  cases e : lsOf G d with
  | none => rw [e] at h; exact h.elim
  | some l =>
    rw [e] at h
    dsimp only at h
    cases e2 : bolsD l with
    | none => rw [e2] at h; exact h.elim
    | some bs =>
      rw [e2] at h
      dsimp only at h
      obtain ⟨a, ys, rfl, h1, l1⟩ := ls_at g rx e
      rw [bolsD_of e2] at l1
      obtain ⟨u, rfl, ru⟩ := vals1 r
      cases ru
      obtain ⟨its, rv, hl, _⟩ := I.list (SqL.of h1)
      obtain ⟨as, rd⟩ := Dp.readsAll I _ _ _ (dps_of l1 (bols_pure bs)) rv
      rw [bols_py] at rd
      refine PySem.W.all_list_data (I.ok.hd hc) hl.isList rd (bols_plain bs) (fun x hx => ?_) fun h' tk hk => ?_
      · obtain ⟨b, _, rfl⟩ := List.mem_map.mp hx
        trivial
      · rw [bols_all]
        exact ⟨.bl _, H, I.kept hk, rfl, k _ _ H G (Ext.refl G H) g bl_rv h⟩
end
end Dl
namespace Dl
open PySem PySem.Spec PyProof.Rows HT
section
variable {prog : Program} {w : World} {A : Around} {E : Value → Shared → Prop} {s : Shared}
theorem applied_rev {sl : Addr} {vl vu vs : Value} {n : Nat} {Q : Int × Int × Nat → Shared → Prop} (hs : s.heap.IsSliceOf sl vl vu vs) (pl : IsPart vl none) (pu : IsPart vu none) (ps : IsPart vs (some (-1)))
    (h : Q ((n : Int) - 1, -1, n) s) : wpAny (model prog w) A (Builtin.Slice.sliceApplied (.ref sl) (pure (n : Int))) Q E s := by
  obtain ⟨os, hos, hcs, hds⟩ := id hs
  unfold Builtin.Slice.sliceApplied Builtin.Slice.sliceFields
  refine wpAny_bind (wpAny_bind (wpAny_field hos hds (x := vl) rfl (wpAny_bind (wpAny_field hos hds (x := vu) rfl (wpAny_bind (wpAny_field hos hds (x := vs) rfl (wpAny_pure ?_)))))))
  refine wpAny_bind (slicePart_ ps ?_)
  show wpAny _ _ (if ((-1 : Int) == 0) = true then _ else _) _ _ s
  rw [if_neg (by decide)]
  refine wpAny_bind (slicePart_ pl (wpAny_bind (slicePart_ pu (wpAny_bind (wpAny_pure ?_)))))
  show wpAny _ _ (pure ((n : Int) - 1, (-1 : Int), Builtin.Slice.slicePlaces ((n : Int) - 1) (-1) (-1))) _ _ s
  have e : Builtin.Slice.slicePlaces ((n : Int) - 1) (-1) (-1) = n := by
    unfold Builtin.Slice.slicePlaces
    rw [if_neg (by decide)]
    split
    · rw [show (-(-1) : Int) = 1 from by decide, Int.ediv_one]; omega
    · omega
  rw [e]
  exact wpAny_pure h
theorem fm_congr {α β : Type} {f g : α → Option β} : ∀ {l : List α}, (∀ x ∈ l, f x = g x) → l.filterMap f = l.filterMap g
  | [], _ => rfl
  | x :: l, h => by
    rw [List.filterMap_cons, List.filterMap_cons, h x (List.mem_cons_self ..), fm_congr fun y hy => h y (List.mem_cons_of_mem _ hy)]
theorem rev_pick (xs : Array Value) : ((List.range xs.size).filterMap fun (m : Nat) => xs[(((xs.size : Int) - 1) + (m : Int) * (-1)).toNat]?).toArray = xs.toList.reverse.toArray := by
  have e : (List.range xs.size).filterMap (fun (m : Nat) => xs[(((xs.size : Int) - 1) + (m : Int) * (-1)).toNat]?) = ((List.range xs.size).map fun k => xs.size - 1 - k).filterMap (xs[·]?) := by
    rw [List.filterMap_map]
    refine fm_congr ?_
    intro m hm
    have := List.mem_range.mp hm
    show xs[(((xs.size : Int) - 1) + (m : Int) * (-1)).toNat]? = xs[xs.size - 1 - m]?
    congr 1
    omega
  rw [e, PySem.W.krv_range, List.filterMap_reverse, PySem.W.krv_all]
theorem getItem_tuple_rev {t sl : Addr} {items : Array Value} {vl vu vs : Value} {Q : Value → Shared → Prop} (ht : IsTup s.heap t items) (hs : s.heap.IsSliceOf sl vl vu vs) (pl : IsPart vl none) (pu : IsPart vu none) (ps : IsPart vs (some (-1)))
    (h : Q (.ref s.heap.objs.size) { s with heap := s.heap.push { cls := .type "tuple", data := .seq items.toList.reverse.toArray } })
    (hsz : items.size ≤ sizeLine) : wpAny (model prog w) A (getItem (.ref t) (.ref sl)) Q E s := by
  have htake : sizeOk (.seq items.toList.reverse.toArray) := by
    show items.toList.reverse.toArray.size ≤ sizeLine
    rw [List.size_toArray, List.length_reverse, Array.length_toList]
    exact hsz
  obtain ⟨os, hos, hcs, hds⟩ := id hs
  have hTs : s.TypeIs (.ref sl) "slice" := ⟨os, hos, hcs⟩
  unfold getItem
  try with_reducible refine wpAny_holding ?_
  first | refine wpAny_bind (wpAny_pure ?_) | skip
  refine wpAny_bind (wpAny_sequenceKey ht.typeIs (by decide) ?_)
  refine wpAny_bind (wpAny_callSpecial?_slot (name := Str.ofString "__getitem__") ht.typeIs PyProof.Rows.slot_tuple_getitem
    (wpAny_call_entry PyProof.Rows.slot_tuple_getitem ht.typeIs entry_tuple_getitem ?_ (args_tuple_getitem _ _)))
  show wpAny _ _ (Builtin.Tuple.tupleItemsOf (.ref t) >>= _) _ _ s
  refine wpAny_bind (tupleItemsOf_ ht ?_)
  refine wpAny_bind (wpAny_typeOf hTs ?_)
  rw [if_pos (by decide)]
  refine wpAny_bind (applied_rev hs pl pu ps ?_)
  have hno : ¬ (((items.size : Int) - 1 == 0 && (-1 : Int) == 1 && items.size == items.size) = true) := by
    intro q
    rw [Bool.and_eq_true, Bool.and_eq_true] at q
    exact absurd q.1.2 (by decide)
  show wpAny _ _ (if (((items.size : Int) - 1 == 0 && (-1 : Int) == 1 && items.size == items.size) = true) then _ else _) _ _ s
  rw [if_neg hno, rev_pick]
  first
    | exact wpAny_bind (m := Builtin.Tuple.tupleExact _) (wpAny_newObj_type (wpAny_pure ⟨_, rfl, wpAny_pure h⟩) htake)
    | exact wpAny_bind (m := Builtin.Tuple.tupleExact _) (wpAny_newObj_type (wpAny_bind (wpAny_pure (wpAny_pure ⟨_, rfl, wpAny_pure h⟩))) htake)
    | exact wpAny_bind (wpAny_bind (m := Builtin.Tuple.tupleExact _) (wpAny_newObj_type (wpAny_pure (wpAny_pure ⟨_, rfl, wpAny_pure h⟩)) htake))
    | exact wpAny_bind (wpAny_bind (m := Builtin.Tuple.tupleExact _) (wpAny_newObj_type (wpAny_pure ⟨_, rfl, wpAny_pure h⟩) htake))
end
end Dl
namespace Dl
open PySem L2
@[simp] def rRev : D → GH → DK → Prop := fun x G Q => match x with
  | .tup ds => Q (.tup ds.reverse) G
  | .lst ds => ∀ p, G p = none → Q (.ref p) (updG G p (.lst ds.reverse))
  | .ref a => (match G a with
    | some (.lst ds) => ∀ p, G p = none → Q (.ref p) (updG G p (.lst ds.reverse))
    | _ => False)
  | _ => False
@[simp] def dRev (te : DTE) : DTE := fun ρ G Q => te ρ G fun x G1 => rRev x G1 Q
def tRevA (K : PySem.W.Frag) (te : TE) : TE := fun σ H Q => te σ H fun x H1 => ∃ a xs, x = .ref a ∧ ((SqL K H1 a xs ∧ ∀ p, H1 p = none → Q (.ref p) (upd H1 p (.lst xs.reverse))) ∨ (SqT K H1 a xs ∧ ∀ p, H1 p = none → Q (.ref p) (upd H1 p (.tup xs.reverse))))
section
open PySem.Spec PyProof.Rows
variable {X : Cx}
theorem pe_revA {e : Expr} {te : TE} {kk : Nat} {q1 q2 q3 pos : Pos} (he : PE X e te) : PE X (.Subscript e (.Slice none none (some (.UnaryOp .USub (.Constant (.int 1) kk q1) q2)) q3) pos) (tRevA X.K te) := by
  constructor
  intro pins s σ H Q I h
  refine Subscript_ (thn (he.run pins s σ H _ I h) ?_)
  rintro v s1 ⟨x, H1, I1, r1, a, xs, rfl, q⟩
  cases r1
  have hst : PO X (some (.UnaryOp .USub (.Constant (.int 1) kk q1) q2)) (tPart (tUn (rU fun i => .int (-i)) (tC (.int 1)))) := po_some (pe_un un_neg pe_int)
  refine wpAny_Slice (thn (po_none.run pins s1 σ H1 (fun o Ha => o = none ∧ Ha = H1) I1 ⟨rfl, rfl⟩) ?_)
  rintro vl s2 ⟨l, H2, I2, pl, rfl, rfl⟩
  refine thn (po_none.run pins s2 σ H2 (fun o Hb => o = none ∧ Hb = H2) I2 ⟨rfl, rfl⟩) ?_
  rintro vu s3 ⟨u, H3, I3, pu, rfl, rfl⟩
  refine thn (hst.run pins s3 σ H3 (fun o Hc => o = some (-1) ∧ Hc = H3) I3 ⟨1, rfl, -1, rfl, rfl, rfl⟩) ?_
  rintro vs s4 ⟨o, H4, I4, ps, rfl, rfl⟩
  have I5 : Inv X pins σ H4 { s4 with heap := s4.heap.push { cls := .type "slice", data := .fields #[vl, vu, vs] } } := I4.kept (t' := s4.toks) fun b ob z => Heap.get?_push_of_some _ z
  have ho := Heap.IsSliceOf.new s4.heap vl vu vs
  rcases q with ⟨hx, q⟩ | ⟨hx, q⟩
  · obtain ⟨its, r, ht, hz⟩ := I5.list hx
    have hlen := r.length
    refine tail_any (ops := [.ref a, .ref s4.heap.objs.size]) ht.isList.typeIs (PySem.slot_list_getitem.lookup) ?_ (by with_unfolding_all rfl)
    refine wpAny_getItem_list_slice ht.isList ho pl pu ps (by decide) ?_ (by rw [List.size_toArray]; omega)
    rw [PySem.W.krv_pick]
    refine ⟨.ref _, _, I5.laid (t' := s4.toks) (o := .lst xs.reverse) (fun b ob z => Heap.get?_push_of_some _ z) (Nat.le_refl _) ?_, rfl, q _ (I5.hok.fresh (Nat.le_refl _))⟩
    exact ⟨by rw [List.length_reverse]; exact hz, _, 0, r.reverse, Heap.get?_push_size _ rfl⟩
  · obtain ⟨its, r, ht, hz⟩ := I5.tuple hx
    have hlen := r.length
    refine tail_any (ops := [.ref a, .ref s4.heap.objs.size]) ht.typeIs (PyProof.Rows.slot_tuple_getitem.lookup) ?_ (by with_unfolding_all rfl)
    refine getItem_tuple_rev ht ho pl pu ps ?_ (by rw [List.size_toArray]; omega)
    refine ⟨.ref _, _, I5.laid (t' := s4.toks) (o := .tup xs.reverse) (fun b ob z => Heap.get?_push_of_some _ z) (Nat.le_refl _) ?_, rfl, q _ (I5.hok.fresh (Nat.le_refl _))⟩
    exact ⟨by rw [List.length_reverse]; exact hz, _, r.reverse, IsTup.new _ _⟩
end
end Dl
namespace Dl
open PySem L2
section
variable {X : Cx}
theorem de_rev {e : Expr} {te : DTE} {kk : Nat} {q1 q2 q3 pos : Pos} (he : DE X e te) : DE X (.Subscript e (.Slice none none (some (.UnaryOp .USub (.Constant (.int 1) kk q1) q2)) q3) pos) (dRev te) := by
  refine (pe_revA he).imp fun σ H Q ⟨ρ, G, q, r, h, k⟩ => ?_
  refine ⟨ρ, G, _, r, h, fun x dx H1 G1 e1 r1 v1 h1 => ?_⟩
  have lcase : ∀ (a : Addr) (xs : List V) (ds : List D), x = .ref a → SqL X.K H1 a xs → RepL X.K G1 H1 ds xs → (∀ p, G1 p = none → q (.ref p) (updG G1 p (.lst ds.reverse))) →
      ∃ a xs, x = .ref a ∧ ((SqL X.K H1 a xs ∧ ∀ p, H1 p = none → Q (.ref p) (upd H1 p (.lst xs.reverse))) ∨ (SqT X.K H1 a xs ∧ ∀ p, H1 p = none → Q (.ref p) (upd H1 p (.tup xs.reverse)))) := by
    intro a xs ds ex hq rl hk
    refine ⟨a, xs, ex, .inl ⟨hq, fun p hp => ?_⟩⟩
    obtain ⟨e2, r2, v2⟩ := r1.newLst hp rl.reverse
    exact k _ _ _ _ (e1.trans e2) r2 v2 (hk p (r1.gok.fresh hp))
  cases dx with
  | tup ds =>
    obtain ⟨a, xs, ex, t, rl⟩ := tp_at v1
    refine ⟨a, xs, ex, .inr ⟨t, fun p hp => ?_⟩⟩
    obtain ⟨e2, r2, v2⟩ := r1.newTup hp rl.reverse
    exact k _ _ _ _ (e1.trans e2) r2 v2 h1
  | lst ds =>
    unfold RepV at v1
    obtain ⟨a, xs, ex, t, rl⟩ := v1
    exact lcase a xs ds ex t.sq rl h1
  | ref a =>
    cases rv_ref v1
    dsimp only [rRev] at h1
    cases hg : G1 a with
    | none => rw [hg] at h1; exact h1.elim
    | some o =>
      rw [hg] at h1
      cases o with
      | lst ds =>
        obtain ⟨xs, h3, h4⟩ := r1.gok a _ hg
        exact lcase a xs ds rfl (SqL.of h3) h4 h1
      | _ => exact h1.elim
  | _ => exact h1.elim
theorem iRev {te : DTE} {ρ : DSt} {G : GH} {Q : DK} (h : te ρ G fun x G1 => rRev x G1 Q) : dRev te ρ G Q := h
theorem revT {ds : List D} {G : GH} {Q : DK} (h : Q (.tup ds.reverse) G) : rRev (.tup ds) G Q := h
theorem revL {ds : List D} {G : GH} {Q : DK} (h : ∀ p, G p = none → Q (.ref p) (updG G p (.lst ds.reverse))) : rRev (.lst ds) G Q := h
theorem iCallG {sp : DSp} {n m : Nat} {src : List (Nat × Nat)} {dv : List D} {ta tk : DTA} {ρ : DSt} {G : GH} {Q : DK} (h : ta ρ G fun ds G1 => tk ρ G1 fun es G2 => ds.length = n ∧ es.length = m ∧ sp (pick src ds dv es) G2 Q noX) : dCallG sp n m src dv ta tk ρ G Q := h
theorem allC_i {l : List D} {bs : List Bool} {G : GH} {Q : DK} (e : bolsD l = some bs) (h : Q (.bl (bs.all id)) G) : rAllC [.lst l] G Q := by
  unfold rAllC arg1 bolsP lsOf
  dsimp only
  rw [e]
  exact h
end
end Dl

namespace Dl
open PySem L2
structure ShwA (d : D) : Prop where
  ok : okD d
  few : fewD d = true
  len : (shD d).length ≤ sizeLine
theorem Shw.a {d : D} (h : Shw d) : ShwA d := ⟨h.ok, h.few, h.len⟩
section
variable {X : Cx}
end
end Dl

namespace Dl
open PySem L2
end Dl

namespace Dl
open PySem L2
theorem ifNDT {A B p : Prop} [Decidable p] (h : p) (b : B) : if (!decide p) = true then A else B := by rw [decide_eq_true h, if_neg (by decide)]; exact b
theorem iNeg {te : DTE} {ρ : DSt} {G : GH} {Q : DK} (h : te ρ G fun d G1 => match d with
  | .int i => Q (.int (-i)) G1
  | _ => False) : dNeg te ρ G Q := h
theorem vw_of {G : GH} {d : D} (h : pureD d = true) : vw G d = d := by
  cases d with
  | ref a => simp [pureD] at h
  | _ => rfl
theorem beqStr (a b : Str) : (a == b) = decide (a = b) := by
  by_cases h : a = b
  · subst h; simp
  · rw [decide_eq_false h, beq_eq_false_iff_ne]; exact h
theorem cmp_i {f : Bool → Bool} {x y : D} {G : GH} {Q : DK} (hx : okD x) (hy : okD y) (h : Q (.bl (f (eqvD x y))) G) : rCmp f x y G Q := by
  unfold rCmp
  rw [vw_of hx.1, vw_of hy.1]
  cases x with
  | str a =>
    cases y with
    | str b => dsimp only; rw [eqvD, beqStr] at h; exact h
    | _ => exact ⟨hx, hy, h⟩
  | int a =>
    cases y with
    | int b => dsimp only; rw [eqvD] at h; exact h
    | _ => exact ⟨hx, hy, h⟩
  | _ => exact ⟨hx, hy, h⟩
theorem isN_T {G : GH} {Q : DK} (h : Q (.bl true) G) : rIsN id .non .non G Q := h
theorem isN_F {d : D} {G : GH} {Q : DK} (e : isNonD d = false) (h : Q (.bl false) G) : rIsN id d .non G Q := by
  show Q (.bl (id (isNonD d))) G
  rw [e]; exact h
theorem lcFt {α : Type} (xs : List α) (g h : α → D) (p : α → Bool) {wi : DTI} {ct : CT} {tt : DTT} {te : DTE} {ρ : DSt} {vs : List Nat} {G : GH} {Q : DK} (hw : ∀ P : List D → (GH → Prop) → GH → Prop, (∀ ok G1, (∀ G, ok G) → Grow G G1 → P (xs.map g) ok G1) → wi ρ G P)
    (hl : xs.length ≤ sizeLine) (hf : ∀ x ∈ xs, ∃ ρ2, bindC ct (g x) (wipeD ρ vs) = some ρ2 ∧ (∀ (G : GH) (K : Bool → GH → Prop), (∀ G', Grow G G' → K (p x) G') → tt ρ2 G K) ∧ (p x = true → ∀ (G : GH) (K : DK), (∀ G', Grow G G' → K (h x) G') → te ρ2 G K))
    (hq : ∀ G', Grow G G' → Q (.lst ((xs.filter p).map h)) G') : dLc wi ct tt te vs ρ G (frzK Q) := by
  unfold dLc
  refine hw _ ?_
  intro ok G1 hok g1 a ha
  have key : ∀ (rs : List α) (acc : List D) (G' : GH), (∀ x ∈ rs, x ∈ xs) → acc.length + rs.length ≤ xs.length → acc ++ (rs.filter p).map h = (xs.filter p).map h → Grow G1 G' → G' a = some (.lst acc) → dLcGo ok ct tt te (wipeD ρ vs) a (rs.map g) G' (frzK Q) := by
    intro rs
    induction rs with
    | nil =>
      intro acc G' _ _ e gg ea
      refine ⟨hok _, frzR ea ?_⟩
      have e2 : acc = (xs.filter p).map h := by simpa using e
      rw [e2]
      exact hq _ (g1.trans (Grow.drop ha gg))
    | cons r rs ih =>
      intro acc G' hm hl2 e gg ea
      rw [List.length_cons] at hl2
      obtain ⟨ρ2, e2, kt, ke⟩ := hf r (hm r (List.mem_cons_self ..))
      rw [List.map_cons]
      unfold dLcGo
      refine ⟨hok _, ?_⟩
      rw [e2]
      refine kt _ _ fun G3 g3 => ?_
      cases hp : p r with
      | false =>
        refine ifF ?_
        rw [List.filter_cons_of_neg (by rw [hp]; decide)] at e
        exact ih acc G3 (fun x hx => hm x (List.mem_cons_of_mem _ hx)) (by omega) e (gg.trans g3) (g3 _ _ ea)
      | true =>
        refine ifT ?_
        rw [List.filter_cons_of_pos hp] at e
        refine ke hp _ _ fun G4 g4 => ?_
        have ea4 := g4 _ _ (g3 _ _ ea)
        rw [ea4]
        refine ⟨by omega, ?_⟩
        refine ih (acc ++ [h r]) _ (fun x hx => hm x (List.mem_cons_of_mem _ hx)) (by rw [List.length_append, List.length_singleton]; omega) ?_ (Grow.upd2 ha ((gg.trans g3).trans g4)) updG_same
        rw [← e]; simp
  exact key xs [] _ (fun _ h => h) (by simp) (by simp) (Grow.upd ha) updG_same
end Dl

namespace Dl
open PySem L2
section
variable {X : Cx}
end
section
variable {X : Cx}
end
end Dl

namespace Dl
open PySem L2
end Dl

namespace Dl
open PySem PySem.Spec PyProof.Rows L2
section
variable {prog : Program} {w : World} {A : Around} {R : Result → Shared → Prop} {s : Shared} {env : Env} {elt ta ia tb ib : Expr} {sc : Scope} {pos : Pos} {it acc : Value}
abbrev calmly (P : Program) (w : World) (A : Around) {α : Type} (t : Sem α) (Q : α → Shared → Prop) (s : Shared) : Prop := wpAny (model P w) A t Q (fun _ _ => False) s
theorem calmly.go {P : Program} {α : Type} {t : Sem α} {Q Q' : α → Shared → Prop} {E : Value → Shared → Prop} (h : calmly P w A t Q s) (k : ∀ a s', Q a s' → Q' a s') : wpAny (model P w) A t Q' E s :=
  wpAny_mono h k fun _ _ z => z.elim
end
end Dl

namespace Dl
open PySem PySem.Spec PyProof.Rows L2
section
variable {Y : Cx} {tg : Expr} {J : It} {fp : List Addr} {it : Addr} {tn : Nat → Heap → Prop} {pins : List (Addr × Obj)} {σ : L2.St} {H : Hp} {s : Shared} {g : TG}
end
section
variable {X : Cx}
end
end Dl

namespace Dl
open PySem PySem.Spec PyProof.Rows L2
section
variable {P : Program} {w : World} {A : Around} {E : Value → Shared → Prop} {s : Shared}
end
end Dl

namespace Dl
open PySem PySem.Spec PyProof.Rows L2
section
variable {P : Program} {w : World} {A : Around} {E : Value → Shared → Prop} {s : Shared} {a : Addr}
end
section
variable {X : Cx}
end
end Dl

namespace Dl
open PySem L2
section
variable {K : PySem.W.Frag} {w : World}
end
section
variable {X : Cx}
end
end Dl

namespace Dl
open PySem L2
section
variable {X : Cx}
end
section
variable {te ta tb : DTE} {ρ : DSt} {G : GH} {Q : DK}
end
end Dl

namespace Dl
open PySem L2
structure FCallee (P : Program) (w : World) (K : PySem.W.Frag) (mg : Str → Option Value) (base : Heap) (k : Nat) (x : Str) (ps : List Str) (sp : DSp) : Prop where
  ex : ∃ f fd, FnOk P w K mg base CX0 k f fd ps (toSp K sp) ∧ mg x = some (.ref f) ∧ PySem.W.keepIn K (.ref f) = true ∧ Binds K fd ps [] ∧ KwB K fd ps ps (fun l => l)
section
variable {P : Program} {w : World} {K : PySem.W.Frag} {mg : Str → Option Value} {base : Heap} {j k : Nat} {x : Str} {ps : List Str} {sp : DSp}
end
section
variable {X : Cx} {k : Nat} {x : Str} {ps : List Str} {sp : DSp} {p pos : Pos} {e : Expr} {es : List Expr} {ta : DTA}
end
section
variable {P : Program} {w : World} {K : PySem.W.Frag} {mg : Str → Option Value} {base : Heap} {x qual : Str} {params : Arguments} {body : List Stmt} {scope : Scope} {f : Addr} {fd : FuncData} {N ps : List Str} {k : Nat} {sp : DSp} {t : DTS}
end
end Dl

namespace Dl
open PySem L2
section
variable {X : Cx}
end
structure DGE where
  nx : List D → DSt → GH → Prop
  rt : List D → DK
  bk : List D → DSt → GH → Prop := fun _ _ _ => False
  ct : List D → DSt → GH → Prop := fun _ _ _ => False
abbrev DTY := DGE → List D → DSt → GH → Prop
def DGE.at (E : DGE) (ds : List D) : DEnds := { nx := E.nx ds, rt := E.rt ds, bk := E.bk ds, ct := E.ct ds }
section
variable {X : Cx}
end
end Dl

namespace Dl
open PySem L2
abbrev DSpG := List D → GH → (List D → GH → Prop) → Prop
def toSpG (K : PySem.W.Frag) (sp : DSpG) : SpG := fun vs H Qv _ => ∃ ds G q, RepL K G H ds vs ∧ GOk K G H ∧ sp ds G q ∧
  ∀ zs es H' G', Ext G H G' H' → GOk K G' H' → RepL K G' H' es zs → q es G' → Qv zs H'
structure GCallee (P : Program) (w : World) (K : PySem.W.Frag) (mg : Str → Option Value) (base : Heap) (k : Nat) (x : Str) (ps : List Str) (sp : DSpG) : Prop where
  ex : ∃ j f fd, j + 3 ≤ k ∧ L2.GFn P w K mg base j f fd ps (toSpG K sp) ∧ mg x = some (.ref f) ∧ PySem.W.keepIn K (.ref f) = true ∧ Binds K fd ps []
section
variable {P : Program} {w : World} {K : PySem.W.Frag} {mg : Str → Option Value} {base : Heap} {j k : Nat} {x : Str} {ps : List Str} {sp : DSpG}
variable {qual : Str} {params : Arguments} {body : List Stmt} {scope : Scope} {f : Addr} {fd : FuncData} {N : List Str} {t : DTY}
end
section
variable {X : Cx} {k : Nat} {x : Str} {ps : List Str} {sp : DSpG} {p p2 pos pos2 : Pos} {e : Expr} {es : List Expr} {ta : DTA}
end
section
variable {X : Cx}
end
end Dl

namespace Dl
open PySem L2
mutual
theorem plain_py : ∀ d : D, (pyD d).plain = true
  | .non => rfl
  | .bl _ => rfl
  | .int _ => rfl
  | .str _ => rfl
  | .tup ds => by rw [pyD, PyData.plain]; exact plains_py ds
  | .lst ds => by rw [pyD, PyData.plain]; exact plains_py ds
  | .byt _ => rfl
  | .ref _ => rfl
  | .scr _ => rfl
  | .fn _ _ _ _ => rfl
  | .exh _ _ _ _ _ => rfl
theorem plains_py : ∀ ds : List D, PyData.plainAll (pyDs ds) = true
  | [] => rfl
  | d :: ds => by rw [pyDs, PyData.plainAll, plain_py d, plains_py ds]; rfl
end
theorem any_py {x : D} (hx : pureD x = true) : ∀ {ds : List D}, pureDs ds = true → ((pyDs ds).any fun y => PyData.eqv y (pyD x)) = inD x ds
  | [], _ => rfl
  | d :: ds, h => by
    rw [pureDs, Bool.and_eq_true] at h
    have ih := any_py hx h.2
    unfold inD at ih ⊢
    rw [pyDs, List.any_cons, List.any_cons, ih, eqv_py d x h.1 hx]
section
variable {X : Cx}
theorem vw_pure {G : GH} {d : D} (h : pureD d = true) : vw G d = d := by
  cases d with
  | ref a => simp [pureD] at h
  | _ => rfl
end
end Dl

namespace Dl
open PySem L2
section
variable {X : Cx}
def rInT (f : Bool → Bool) : DR2 := fun x y G Q => match y with
  | .tup ds => okD x ∧ okD (.tup ds) ∧ Q (.bl (f (inD x ds))) G
  | _ => False
theorem o_inT (hu : X.A.units + 70 < cLine) : DOp X (compareOp .In) (rInT id) := by
  intro pins s σ H x y v u Q I rx ry ⟨G, dx, dy, q, g, r1, r2, h, k⟩
  cases dy with
  | tup ds =>
    obtain ⟨h1, h2, h3⟩ := h
    have a1 := vw_dp g r1 (by rw [vw_pure h1.1]; exact h1.1)
    have a2 := vw_dp g r2 (by rw [vw_pure h2.1]; exact h2.1)
    rw [vw_pure h1.1] at a1
    rw [vw_pure h2.1, pyD] at a2
    obtain ⟨as, ra⟩ := Dp.reads I _ x v a1 rx
    obtain ⟨bs, rb⟩ := Dp.reads I _ y u a2 ry
    have hd : (pyD dx).depth ≤ 64 := by rw [depth_py]; exact h1.2
    refine SeqAt.in_tuple_data rb ra (plains_py ds) (plain_py dx) (by omega) ⟨.bl _, H, I, rfl, ?_⟩
    rw [any_py h1.1 (by have := h2.1; rwa [pureD] at this)]
    exact k _ _ H G (Ext.refl G H) g bl_rv h3
  | _ => exact h.elim
theorem o_notinT (hu : X.A.units + 70 < cLine) : DOp X (compareOp .NotIn) (rInT not) := by
  intro pins s σ H x y v u Q I rx ry ⟨G, dx, dy, q, g, r1, r2, h, k⟩
  cases dy with
  | tup ds =>
    obtain ⟨h1, h2, h3⟩ := h
    have a1 := vw_dp g r1 (by rw [vw_pure h1.1]; exact h1.1)
    have a2 := vw_dp g r2 (by rw [vw_pure h2.1]; exact h2.1)
    rw [vw_pure h1.1] at a1
    rw [vw_pure h2.1, pyD] at a2
    obtain ⟨as, ra⟩ := Dp.reads I _ x v a1 rx
    obtain ⟨bs, rb⟩ := Dp.reads I _ y u a2 ry
    have hd : (pyD dx).depth ≤ 64 := by rw [depth_py]; exact h1.2
    refine SeqAt.notIn_tuple_data rb ra (plains_py ds) (plain_py dx) (by omega) ⟨.bl _, H, I, rfl, ?_⟩
    rw [any_py h1.1 (by have := h2.1; rwa [pureD] at this)]
    exact k _ _ H G (Ext.refl G H) g bl_rv h3
  | _ => exact h.elim
end
end Dl

namespace Dl
open PySem L2 PySem.W PySem.SeqAt PyProof.Rows
open AutoSeq1 (wpAny_loadPart')
open MeetsSeq MeetsSeq2 MeetsSeq3 SeqRoads2
structure LtAsk (A : Around) (s : Shared) (p q : Array Value) (e r : Nat → Bool) : Prop where
  eq : ∀ j (h1 : j < p.size) (h2 : j < q.size), (∀ i, i < j → e i = true) → EqAt A s p[j] q[j] (e j)
  lt : ∀ j (h1 : j < p.size) (h2 : j < q.size), (∀ i, i < j → e i = true) → e j = false → RcLt A s p[j] q[j] (r j)
abbrev ltFrom (p q : Array Value) (e r : Nat → Bool) (i : Nat) : Bool := firstLt e r (decide (p.size < q.size)) ((List.range (min p.size q.size)).drop i)
theorem lt_meets (l b : Addr) (p q : Array Value) (n m : Nat) (d1 d2 : Option Addr) (t1 t2 : Array (Option Value)) (e r : Nat → Bool) :
    Meets (Builtin.«tuple.__lt__» ⟨[.ref l, .ref b], []⟩)
      (fun A R s => s.heap.get? l = some { cls := .type "tuple", dict := d1, data := .seq p n, slots := t1 } ∧
        s.heap.get? b = some { cls := .type "tuple", dict := d2, data := .seq q m, slots := t2 } ∧
        LtAsk A.in1 s p q e r ∧ R (.ok (.ret (.bool (ltFrom p q e r 0)))) s) :=
  .of_wp fun prog w A R s h => by
    obtain ⟨hp, g, d, tk, os⟩ := s
    obtain ⟨hl, hb, ask, fin⟩ := h
    have sub2 := AutoSeq1.sub_tuple_tuple
    have hZ : (p.toList.zip q.toList).length = min p.size q.size := by simp
    wp_walk using wpAny_loadPart' hl, wpAny_loadPart' hb, wpAny_forIn_list _ (fun rest c s' => c.1 = none ∧ s' = ⟨hp, g, d, tk, os⟩ ∧ ∃ i, rest = (p.toList.zip q.toList).drop i ∧
      (∀ k, k < i → e k = true) ∧ R (.ok (.ret (.bool (ltFrom p q e r i)))) ⟨hp, g, d, tk, os⟩) _
    case turn =>
      rintro ⟨y, x⟩ rest c s' ⟨hc, rfl, i, hz, hpre, hR⟩
      have hlt : i < (p.toList.zip q.toList).length := by
        rcases Nat.lt_or_ge i (p.toList.zip q.toList).length with z | z
        · exact z
        · rw [List.drop_of_length_le z] at hz; cases hz
      have hm : i < min p.size q.size := by omega
      have h1 : i < p.size := by omega
      have h2 : i < q.size := by omega
      rw [List.drop_eq_getElem_cons hlt] at hz
      injection hz with hyx hrest
      obtain rfl : y = p[i] := by simpa using congrArg Prod.fst hyx
      obtain rfl : x = q[i] := by simpa using congrArg Prod.snd hyx
      have hd : (List.range (min p.size q.size)).drop i = i :: (List.range (min p.size q.size)).drop (i + 1) := by
        simp [List.drop_eq_getElem_cons, hm]
      unfold ltFrom at hR
      rw [hd] at hR
      refine wpAny_bind (ask.eq i h1 h2 hpre prog w _ _ ?_)
      cases hy : e i with
      | true =>
        rw [firstLt_yes hy] at hR
        wp_walk
        refine ⟨rfl, rfl, i + 1, hrest, fun k hk => ?_, hR⟩
        rcases Nat.lt_or_ge k i with z | z
        · exact hpre k z
        · rw [show k = i from by omega]; exact hy
      | false =>
        rw [firstLt_no hy] at hR
        have go := ask.lt i h1 h2 hpre hy
        unfold RcLt at go
        generalize hg : @PySem.richCompare = rc at go ⊢
        wp_walk
        refine go prog w _ _ ?_
        wp_walk
        exact ⟨_, rfl, hR⟩
    case fin =>
      rintro ⟨c1, c2⟩ s' ⟨hc, rfl, i, hz, hpre, hR⟩
      simp only at hc
      subst hc
      have hge : min p.size q.size ≤ i := by
        rcases Nat.lt_or_ge i (p.toList.zip q.toList).length with z | z
        · rw [List.drop_eq_getElem_cons z] at hz; cases hz
        · omega
      unfold ltFrom at hR
      rw [List.drop_of_length_le (by simpa using hge)] at hR
      wp_walk
      exact ⟨_, rfl, by simpa [Builtin.Tuple.tupleCompareSizes, firstLt] using hR⟩
    case h =>
      exact ⟨rfl, rfl, 0, rfl, fun k hk => absurd hk (Nat.not_lt_zero _), fin⟩
theorem rcTup {A : Around} {s : Shared} {l b : Addr} {p q : Array Value} {e r : Nat → Bool} (hl : s.heap.IsTuple l p) (hb : s.heap.IsTuple b q) (hu : A.units < cLine) (ask : LtAsk A.in1 s p q e r) :
    RcLt A s (.ref l) (.ref b) (ltFrom p q e r 0) := fun prog w E Q h => by
  obtain ⟨⟨c1, d1, t1, s1⟩, ho, hc, n, hd⟩ := id hl
  obtain ⟨⟨c2, d2, t2, s2⟩, ho2, hc2, m, hd2⟩ := id hb
  simp only at hc hd hc2 hd2
  subst hc hd hc2 hd2
  refine richCompare_meets_room (op := .Lt) ⟨_, ho, rfl⟩ ⟨_, ho2, rfl⟩ F.slot_tuple_lt F.entry_tuple_lt (F.args_tuple_lt_2 _ _) (lt_meets l b p q n m d1 d2 s1 s2 e r) ⟨ho, ho2, ask, ?_⟩ hu
  exact show Value.bool _ ≠ Value.notImplemented ∧ _ from ⟨(fun x => nomatch x), h⟩
end Dl

namespace Dl
open PySem L2 PySem.W PySem.SeqAt PyProof.Rows
mutual
/-- of like kinds as far as they agree, and where they first differ -/
def cmpb : PyData → PyData → Bool
  | .bool _, .bool _ => true
  | .int _, .int _ => true
  | .str _, .str _ => true
  | .tuple xs, .tuple ys => cmpbs xs ys
  | _, _ => false
def cmpbs : List PyData → List PyData → Bool
  | x :: xs, y :: ys => cmpb x y && (!PyData.eqv x y || cmpbs xs ys)
  | _, _ => true
end
abbrev tlt (a b : List (Int ⊕ List Nat)) : Bool := lexLt itemOrd a b
theorem tlt_atom {t u : Int ⊕ List Nat} (h : t ≠ u) (l m : List (Int ⊕ List Nat)) : tlt ([t] ++ l) ([u] ++ m) = tlt [t] [u] := by
  show lexLt itemOrd (t :: l) (u :: m) = lexLt itemOrd [t] [u]
  rw [lex_diff (O := itemOrd) h, lex_diff (O := itemOrd) h]
theorem cmpbs_cons {x y : PyData} {xs ys : List PyData} (h : cmpbs (x :: xs) (y :: ys) = true) : cmpb x y = true ∧ (PyData.eqv x y = true → cmpbs xs ys = true) := by
  rw [cmpbs, Bool.and_eq_true] at h
  refine ⟨h.1, fun e => ?_⟩
  have := h.2
  rw [e] at this
  simpa using this
mutual
theorem toks_c : ∀ x y : PyData, cmpb x y = true → (PyData.eqv x y = true → keyToks x = keyToks y) ∧ (PyData.eqv x y = false → ∀ l m, tlt (keyToks x ++ l) (keyToks y ++ m) = tlt (keyToks x) (keyToks y))
  | .bool a, y, h => by
    cases y with
    | bool b =>
      simp only [keyToks, PyData.eqv]
      refine ⟨fun e => ?_, fun e l m => tlt_atom ?_ l m⟩
      · have : a = b := by simpa using e
        rw [this]
      · cases a <;> cases b <;> simp at e ⊢
    | _ => simp [cmpb] at h
  | .int a, y, h => by
    cases y with
    | int b =>
      simp only [keyToks, PyData.eqv]
      refine ⟨fun e => ?_, fun e l m => tlt_atom ?_ l m⟩
      · have : a = b := by simpa using e
        rw [this]
      · have : a ≠ b := by simpa using e
        simpa using this
    | _ => simp [cmpb] at h
  | .str a, y, h => by
    cases y with
    | str b =>
      simp only [keyToks, PyData.eqv]
      refine ⟨fun e => ?_, fun e l m => tlt_atom ?_ l m⟩
      · have : a = b := by simpa using e
        rw [this]
      · have : a ≠ b := by simpa using e
        intro z
        exact this (str_of_cps (by simpa using z))
    | _ => simp [cmpb] at h
  | .tuple xs, y, h => by
    cases y with
    | tuple ys =>
      simp only [keyToks, PyData.eqv]
      exact toks_cs xs ys (by simpa [cmpb] using h)
    | _ => simp [cmpb] at h
  | .none, y, h => by cases y <;> simp [cmpb] at h
  | .list _, y, h => by cases y <;> simp [cmpb] at h
  | .dict _, y, h => by cases y <;> simp [cmpb] at h
theorem toks_cs : ∀ xs ys : List PyData, cmpbs xs ys = true → (PyData.eqvAll xs ys = true → keyToksAll xs = keyToksAll ys) ∧ (PyData.eqvAll xs ys = false → ∀ l m, tlt (keyToksAll xs ++ l) (keyToksAll ys ++ m) = tlt (keyToksAll xs) (keyToksAll ys))
  | [], [], _ => ⟨fun _ => rfl, fun e => by simp [PyData.eqvAll] at e⟩
  | [], y :: ys, _ => by
    refine ⟨fun e => by simp [PyData.eqvAll] at e, fun _ l m => ?_⟩
    rw [toks_all_cons]
    simp only [keyToksAll, List.cons_append]
    show lexLt itemOrd _ _ = lexLt itemOrd _ _
    rw [lex_diff (O := itemOrd) (by simp), lex_diff (O := itemOrd) (by simp)]
  | x :: xs, [], _ => by
    refine ⟨fun e => by simp [PyData.eqvAll] at e, fun _ l m => ?_⟩
    rw [toks_all_cons]
    simp only [keyToksAll, List.cons_append]
    show lexLt itemOrd _ _ = lexLt itemOrd _ _
    rw [lex_diff (O := itemOrd) (by simp), lex_diff (O := itemOrd) (by simp)]
  | x :: xs, y :: ys, h => by
    obtain ⟨h1, h2⟩ := cmpbs_cons h
    have k1 := toks_c x y h1
    rw [eqv_all_cons, toks_all_cons, toks_all_cons]
    cases e : PyData.eqv x y with
    | true =>
      have k2 := toks_cs xs ys (h2 e)
      rw [Bool.true_and, k1.1 e]
      refine ⟨fun e2 => by rw [k2.1 e2], fun e2 l m => ?_⟩
      have := k2.2 e2 l m
      simp only [List.cons_append, List.append_assoc]
      show lexLt itemOrd _ _ = lexLt itemOrd _ _
      rw [lex_self, lex_self, lex_pre, lex_pre]
      exact this
    | false =>
      refine ⟨fun e2 => by simp at e2, fun _ l m => ?_⟩
      simp only [List.cons_append, List.append_assoc]
      show lexLt itemOrd _ _ = lexLt itemOrd _ _
      rw [lex_self, lex_self]
      exact (k1.2 e _ _).trans (k1.2 e _ _).symm
end
theorem tlt_yes {x y : PyData} {xs ys : List PyData} (h : cmpb x y = true) (e : PyData.eqv x y = true) : tlt (keyToksAll (x :: xs)) (keyToksAll (y :: ys)) = tlt (keyToksAll xs) (keyToksAll ys) := by
  rw [toks_all_cons, toks_all_cons, (toks_c x y h).1 e]
  show lexLt itemOrd _ _ = lexLt itemOrd _ _
  rw [lex_self, lex_pre]
theorem tlt_no {x y : PyData} {xs ys : List PyData} (h : cmpb x y = true) (e : PyData.eqv x y = false) : tlt (keyToksAll (x :: xs)) (keyToksAll (y :: ys)) = dataLt x y := by
  rw [toks_all_cons, toks_all_cons]
  show lexLt itemOrd _ _ = lexLt itemOrd _ _
  rw [lex_self]
  exact (toks_c x y h).2 e _ _
theorem tlt_short (y : PyData) (ys : List PyData) : tlt (keyToksAll []) (keyToksAll (y :: ys)) = true ∧ tlt (keyToksAll (y :: ys)) (keyToksAll []) = false := by
  rw [toks_all_cons]
  simp only [keyToksAll]
  constructor
  · show lexLt itemOrd _ _ = true
    rw [lex_diff (O := itemOrd) (by simp)]; decide
  · show lexLt itemOrd _ _ = false
    rw [lex_diff (O := itemOrd) (by simp)]; decide
theorem first_c : ∀ xs ys : List PyData, cmpbs xs ys = true →
    firstLt (pairEq xs ys) (fun j => dataLt (xs.getD j .none) (ys.getD j .none)) (decide (xs.length < ys.length)) (List.range (min xs.length ys.length)) = tlt (keyToksAll xs) (keyToksAll ys)
  | [], [], _ => by simp [firstLt, lex_irrefl]
  | [], y :: ys, _ => by rw [(tlt_short y ys).1]; simp [firstLt]
  | x :: xs, [], _ => by rw [(tlt_short x xs).2]; simp [firstLt]
  | x :: xs, y :: ys, h => by
    obtain ⟨h1, h2⟩ := cmpbs_cons h
    rw [show min (x :: xs).length (y :: ys).length = min xs.length ys.length + 1 from by simp only [List.length_cons]; omega, List.range_succ_eq_map,
      show decide ((x :: xs).length < (y :: ys).length) = decide (xs.length < ys.length) from by rw [decide_eq_decide]; simp only [List.length_cons]; omega]
    cases e : PyData.eqv x y with
    | true =>
      rw [firstLt_yes (show pairEq (x :: xs) (y :: ys) 0 = true from e), firstLt_map, tlt_yes h1 e, ← first_c xs ys (h2 e)]
      rfl
    | false =>
      rw [firstLt_no (show pairEq (x :: xs) (y :: ys) 0 = false from e), tlt_no h1 e]
      rfl
mutual
/-- a < b of such data -/
theorem rc_c : ∀ (da db : PyData) (A : Around) (s : Shared) (a b : Value) (as bs : List Addr), Reads s.heap a da as → Reads s.heap b db bs → cmpb da db = true → da.plain = true → db.plain = true →
    A.units + min da.depth db.depth < cLine → RcLt A s a b (dataLt da db)
  | .bool x, db, A, s, a, b, as, bs, ra, rb, h, _, _, _ => by
    cases db with
    | bool y => cases ra; cases rb; intro prog w E Q q; rw [dataLt_bool] at q; exact lt_bool q
    | _ => simp [cmpb] at h
  | .int x, db, A, s, a, b, as, bs, ra, rb, h, _, _, _ => by
    cases db with
    | int y => cases ra; cases rb; intro prog w E Q q; rw [dataLt_int] at q; exact PyProof.Rows.lt_int q
    | _ => simp [cmpb] at h
  | .str x, db, A, s, a, b, as, bs, ra, rb, h, _, _, _ => by
    cases db with
    | str y => cases ra; cases rb; intro prog w E Q q; rw [dataLt_str] at q; exact PyProof.Rows.lt_str q
    | _ => simp [cmpb] at h
  | .tuple xs, db, A, s, a, b, as, bs, ra, rb, h, pa, pb, hu => by
    cases db with
    | tuple ys =>
      have hc : cmpbs xs ys = true := by simpa [cmpb] using h
      have pa' : PyData.plainAll xs = true := by simpa [PyData.plain] using pa
      have pb' : PyData.plainAll ys = true := by simpa [PyData.plain] using pb
      cases ra with
      | @tuple l o p n _ _ h1 h2 h3 h4 =>
        cases rb with
        | @tuple l' o' q m _ _ k1 k2 k3 k4 =>
          have n1 : p.size = xs.length := by simpa using ReadsAll.length _ _ _ h4
          have n2 : q.size = ys.length := by simpa using ReadsAll.length _ _ _ k4
          rw [dataLt_tuple, show lexLt itemOrd (keyToksAll xs) (keyToksAll ys) = tlt (keyToksAll xs) (keyToksAll ys) from rfl, ← first_c xs ys hc, ← n1, ← n2]
          refine rcTup (e := pairEq xs ys) (r := fun j => dataLt (xs.getD j .none) (ys.getD j .none)) ⟨_, h1, h2, _, h3⟩ ⟨_, k1, k2, _, k3⟩ (room_here hu) ⟨fun j j1 j2 _ => ?_, fun j j1 j2 hp hj => ?_⟩
          · have := eqAt_plainAll xs ys A.in1 s p.toList q.toList _ _ h4 k4 pa' pb' (room_in hu) j (by simpa using j1) (by simpa using j2)
            simpa using this
          · have := rc_cs xs ys A.in1 s p.toList q.toList _ _ h4 k4 hc pa' pb' (room_in hu) j (by simpa using j1) (by simpa using j2) hp hj
            simpa using this
    | _ => simp [cmpb] at h
  | .none, db, _, _, _, _, _, _, _, _, h, _, _, _ => by cases db <;> simp [cmpb] at h
  | .list _, db, _, _, _, _, _, _, _, _, h, _, _, _ => by cases db <;> simp [cmpb] at h
  | .dict _, db, _, _, _, _, _, _, _, _, h, _, _, _ => by cases db <;> simp [cmpb] at h
theorem rc_cs : ∀ (xs ys : List PyData) (A : Around) (s : Shared) (vs ws : List Value) (as bs : List Addr), ReadsAll s.heap vs xs as → ReadsAll s.heap ws ys bs → cmpbs xs ys = true → PyData.plainAll xs = true → PyData.plainAll ys = true →
    A.units + min (PyData.depthAll xs) (PyData.depthAll ys) < cLine → ∀ j (h1 : j < vs.length) (h2 : j < ws.length), (∀ i, i < j → pairEq xs ys i = true) → pairEq xs ys j = false → RcLt A s vs[j] ws[j] (dataLt (xs.getD j .none) (ys.getD j .none))
  | [], _, _, _, _, _, _, _, ra, _, _, _, _, _, j, h1, _, _, _ => by cases ra; exact absurd h1 (Nat.not_lt_zero _)
  | _ :: _, [], _, _, _, _, _, _, _, rb, _, _, _, _, j, _, h2, _, _ => by cases rb; exact absurd h2 (Nat.not_lt_zero _)
  | x :: xs, y :: ys, A, s, _, _, _, _, ra, rb, h, pa, pb, hu, j, h1, h2, hp, hj => by
    obtain ⟨c1, c2⟩ := cmpbs_cons h
    have pa' : x.plain = true ∧ PyData.plainAll xs = true := by simpa [PyData.plainAll] using pa
    have pb' : y.plain = true ∧ PyData.plainAll ys = true := by simpa [PyData.plainAll] using pb
    cases ra with
    | cons r rs =>
      cases rb with
      | cons r' rs' =>
        cases j with
        | zero => exact rc_c x y A s _ _ _ _ r r' c1 pa'.1 pb'.1 (room_head hu)
        | succ j =>
          have e0 : PyData.eqv x y = true := hp 0 (Nat.succ_pos _)
          exact rc_cs xs ys A s _ _ _ _ rs rs' (c2 e0) pa'.2 pb'.2 (room_tail hu) j (Nat.lt_of_succ_lt_succ h1) (Nat.lt_of_succ_lt_succ h2) (fun i hi => hp (i + 1) (Nat.succ_lt_succ hi)) hj
end
end Dl

namespace Dl
open PySem L2 PySem.W PySem.SeqAt PyProof.Rows
noncomputable def ltv (h : Heap) (v u : Value) : Bool := tlt (keyToks (readOf h v)) (keyToks (readOf h u))
theorem swo_ltv (h : Heap) : SrtO.Swo (ltv h) := by
  refine ⟨fun x y q => ?_, fun x y z h1 h2 => ?_⟩
  · cases e : ltv h y x with
    | false => rfl
    | true =>
      have := lex_trans _ _ _ q e
      rw [lex_irrefl] at this; cases this
  · cases e : ltv h z x with
    | false => rfl
    | true =>
      rcases lex_negTrans _ (keyToks (readOf h y)) _ e with q | q
      · rw [show ltv h z y = true from q] at h2; cases h2
      · rw [show ltv h y x = true from q] at h1; cases h1
structure Srt (ds : List PyData) : Prop where
  one : ∀ d, d ∈ ds → d.plain = true ∧ d.depth ≤ 60 ∧ ∃ i r, d = .tuple (.int i :: r)
  two : ∀ d, d ∈ ds → ∀ d', d' ∈ ds → cmpb d d' = true
section
variable {prog : Program} {w : World} {A : Around} {E : Value → Shared → Prop} {s : Shared}
theorem kat_rest {Q : Bool → Shared → Prop} : ∀ (xs ys : List PyData) (vs ws : List Value) (as bs : List Addr) (i : Nat) (fin : Bool), ReadsAll s.heap vs xs as → ReadsAll s.heap ws ys bs → cmpbs xs ys = true → PyData.plainAll xs = true → PyData.plainAll ys = true →
    A.units + min (PyData.depthAll xs) (PyData.depthAll ys) < cLine → 0 < i → fin = decide (xs.length < ys.length) → Q (tlt (keyToksAll xs) (keyToksAll ys)) s → KatLex prog w A true fin Q (vs.zip ws) i s
  | [], [], _, _, _, _, i, fin, ra, rb, _, _, _, _, _, hf, hq => by
    cases ra; cases rb
    refine kat_nil ?_
    rw [show tlt (keyToksAll []) (keyToksAll []) = false from lex_irrefl _] at hq
    rw [hf]; exact hq
  | [], y :: ys, _, _, _, _, i, fin, ra, rb, _, _, _, _, _, hf, hq => by
    cases ra; cases rb
    refine kat_nil ?_
    rw [(tlt_short y ys).1] at hq
    rw [hf]; simpa using hq
  | x :: xs, [], _, _, _, _, i, fin, ra, rb, _, _, _, _, _, hf, hq => by
    cases ra; cases rb
    refine kat_nil ?_
    rw [(tlt_short x xs).2] at hq
    rw [hf]; simpa using hq
  | x :: xs, y :: ys, _, _, _, _, i, fin, ra, rb, h, pa, pb, hu, hi, hf, hq => by
    obtain ⟨c1, c2⟩ := cmpbs_cons h
    have pa' : x.plain = true ∧ PyData.plainAll xs = true := by simpa [PyData.plainAll] using pa
    have pb' : y.plain = true ∧ PyData.plainAll ys = true := by simpa [PyData.plainAll] using pb
    cases ra with
    | cons r rs =>
      cases rb with
      | cons r' rs' =>
        refine kat_cons (eqAt_plain x y A s _ _ _ _ r r' pa'.1 pb'.1 (room_head hu) prog w _ _ ?_)
        refine kat_go (fun e => kat_yes ?_) (fun e => kat_no ?_)
        · rw [tlt_yes c1 e] at hq
          exact kat_rest xs ys _ _ _ _ (i + 1) fin rs rs' (c2 e) pa'.2 pb'.2 (room_tail hu) (Nat.succ_pos _) (by rw [hf, decide_eq_decide]; simp only [List.length_cons]; omega) hq
        · rw [tlt_no c1 e] at hq
          rw [show (true && i == 0) = false from by simp; omega]
          refine kat_one _ _ ?_
          exact rc_c x y A s _ _ _ _ r r' c1 pa'.1 pb'.1 (room_head hu) prog w _ _ hq
theorem cmp_c {h : Heap} {vs : List Value} {ds : List PyData} (hs : ∀ b o, h.get? b = some o → s.heap.get? b = some o) (S : Srt ds) (hr : ∀ v ∈ vs, ∃ d ∈ ds, ∃ as, Reads h v d as) (hu : A.units + 61 < cLine) :
    SrtO.Cmp prog w A s (tuples' true) (fun p => p.1 ∈ vs) (SrtO.lt2 (ltv h)) := by
  intro p q hm hm'
  obtain ⟨d, hd, as, ra⟩ := hr _ hm
  obtain ⟨d', hd', bs, rb⟩ := hr _ hm'
  obtain ⟨p1, z1, i, r, rfl⟩ := S.one d hd
  obtain ⟨p2, z2, j, r', rfl⟩ := S.one d' hd'
  have hc : cmpbs (.int i :: r) (.int j :: r') = true := by simpa [cmpb] using S.two _ hd _ hd'
  have pa : PyData.plainAll (.int i :: r) = true := by simpa [PyData.plain] using p1
  have pb : PyData.plainAll (.int j :: r') = true := by simpa [PyData.plain] using p2
  have hroom : A.units + min (PyData.depthAll (.int i :: r)) (PyData.depthAll (.int j :: r')) < cLine := by
    have : PyData.depthAll (.int i :: r) + 1 ≤ 60 := by simpa [PyData.depth] using z1
    omega
  show wpAny (model prog w) A (keyLt' (tuples' true) p.1 q.1) (fun b s' => s' = s ∧ b = ltv h p.1 q.1) (fun _ _ => False) s
  have hl : ltv h p.1 q.1 = tlt (keyToksAll (.int i :: r)) (keyToksAll (.int j :: r')) := by
    unfold ltv
    rw [readOf_plain p1 ra, readOf_plain p2 rb]
    simp only [keyToks]
  rw [hl]
  have ra' := PyProof.Rows.Reads.keeps hs ra
  have rb' := PyProof.Rows.Reads.keeps hs rb
  generalize p.1 = u at ra'
  generalize q.1 = v at rb'
  cases ra' with
  | @tuple l o xs n _ _ h1 h2 h3 h4 =>
    cases rb' with
    | @tuple l' o' ys m _ _ k1 k2 k3 k4 =>
      have n1 : xs.size = (PyData.int i :: r).length := by simpa using ReadsAll.length _ _ _ h4
      have n2 : ys.size = (PyData.int j :: r').length := by simpa using ReadsAll.length _ _ _ k4
      refine kat_lt h1 h3 k1 k3 ?_
      rw [n1, n2]
      generalize xs.toList = us at h4
      generalize ys.toList = ws at k4
      cases h4 with
      | cons ri rs =>
        cases k4 with
        | cons rj rs' =>
          cases ri with
          | int _ t1 =>
            cases rj with
            | int _ t2 =>
              obtain ⟨c1, c2⟩ := cmpbs_cons hc
              have e0 : PyData.eqv (.int i) (.int j) = (i == j) := by simp [PyData.eqv]
              refine kat_cons (EqAt.int_int i t1 j t2 prog w _ _ ?_)
              refine kat_go (fun e => kat_yes ?_) (fun e => kat_no ?_)
              · have e1 : PyData.eqv (.int i) (.int j) = true := by rw [e0]; simpa using e
                have pa2 : PyData.plainAll r = true := by simpa [PyData.plainAll, PyData.plain] using pa
                have pb2 : PyData.plainAll r' = true := by simpa [PyData.plainAll, PyData.plain] using pb
                rw [tlt_yes c1 e1]
                exact kat_rest r r' _ _ _ _ 1 _ rs rs' (c2 e1) pa2 pb2 (room_tail hroom) (Nat.succ_pos _) (by rw [decide_eq_decide]; simp only [List.length_cons]; omega) ⟨rfl, rfl⟩
              · have e1 : PyData.eqv (.int i) (.int j) = false := by rw [e0]; simpa using e
                rw [tlt_no c1 e1, dataLt_int]
                exact oneLt_int ⟨rfl, rfl⟩
theorem tups_c {h : Heap} : ∀ {vs : List Value}, (∀ v ∈ vs, ∃ i r as, Reads h v (.tuple (.int i :: r)) as) → ∃ fs, KatTups h vs fs ∧ fs.length = vs.length ∧ ∀ f ∈ fs, ∃ i t, f = Value.int i t
  | [], _ => ⟨[], KatTups.nil, rfl, fun f hf => by cases hf⟩
  | v :: vs, hv => by
    obtain ⟨fs, f1, f2, f3⟩ := tups_c (vs := vs) fun u hu => hv u (List.mem_cons_of_mem _ hu)
    obtain ⟨i, r, as, ra⟩ := hv v (List.mem_cons_self ..)
    cases ra with
    | @tuple l o xs n _ _ h1 h2 h3 h4 =>
      cases q : xs.toList with
      | nil => rw [q] at h4; cases h4
      | cons f fr =>
        rw [q] at h4
        cases h4 with
        | cons ri _ =>
          cases ri with
          | int _ t =>
            have hf : xs[0]? = some (.int i t) := by rw [← Array.getElem?_toList, q]; rfl
            refine ⟨_ :: fs, KatTups.cons h1 h2 h3 hf f1, by simp [f2], fun g hg => ?_⟩
            rcases List.mem_cons.mp hg with e | e
            · exact ⟨i, t, e⟩
            · exact f3 g e
end
end Dl

namespace Dl
open PySem L2
inductive Ech {α β : Type} (R : α → β → Prop) : List α → List β → Prop
  | nil : Ech R [] []
  | cons {a : α} {b : β} {as : List α} {bs : List β} : R a b → Ech R as bs → Ech R (a :: as) (b :: bs)
theorem Ech.left {α β : Type} {R : α → β → Prop} {us : List α} {ds : List β} (t : Ech R us ds) : ∀ v ∈ us, ∃ d ∈ ds, R v d := by
  induction t with
  | nil => intro v h; cases h
  | cons q t ih =>
    intro v h
    rcases List.mem_cons.mp h with z | z
    · subst z; exact ⟨_, List.mem_cons_self .., q⟩
    · obtain ⟨d, hd, r⟩ := ih v z; exact ⟨d, List.mem_cons_of_mem _ hd, r⟩
structure SrtD (l : List D) : Prop where
  pure : pureDs l = true
  one : ∀ d, d ∈ l → depD d ≤ 60 ∧ ∃ i r, d = .tup (.int i :: r)
  two : ∀ d, d ∈ l → ∀ d', d' ∈ l → cmpb (pyD d) (pyD d') = true
end Dl

namespace Dl
open PySem L2 PyProof.Rows
section
variable {X : Cx} {o : Expr} {td : TE} {p apos mpos pos : Pos}
end
end Dl

namespace Dl
open PySem L2
end Dl

namespace Dl
open PySem L2
section
variable {K : PySem.W.Frag} {G : GH} {H : Hp}
end

section
variable {X : Cx} {e o value : Expr} {c f : Str} {pos pos' : Pos} {te to tv : DTE}
end

section
variable {X : Cx} {CX : CXT} {k : Nat} {C f : Addr} {fd : FuncData} {ps : List Str} {x m : Str} {p pos apos : Pos} {e o : Expr} {es : List Expr} {E : XK} {ta : TE} {t : TA}
end
structure MCallee (P : Program) (w : World) (K : PySem.W.Frag) (mg : Str → Option Value) (base : Heap) (k : Nat) (c m : Str) (ps : List Str) (sp : DSp) : Prop where
  ex : ∃ f fd, DFn P w K mg base k f fd ps sp ∧ Cls K (He.ga K c) ∧ Meth K (He.ga K c) m f ∧ Binds K fd ps []
structure ICallee (P : Program) (w : World) (K : PySem.W.Frag) (mg : Str → Option Value) (base : Heap) (k : Nat) (c : Str) (ps : List Str) (sp : DSp) : Prop where
  ex : ∃ f fd, DFn P w K mg base k f fd ps sp ∧ Mk K (He.ga K c) f ∧ mg c = some (.ref (He.ga K c)) ∧ Binds K fd ps []
section
variable {X : Cx} {k : Nat} {c m : Str} {ps : List Str} {sp : DSp} {p pos apos : Pos} {e o : Expr} {es : List Expr} {ta : DTA} {to : DTE}
end
end Dl

namespace Dl
open PySem L2
def WFor (K : PySem.W.Frag) (a : Addr) (kvs : List (Str × Int)) (z : Str) : Prop := match kvs.lookup z with
  | some i => ∃ t, PySem.W.nsIn K a z = some (some (.int i t))
  | none => PySem.W.nsIn K a z = some none
structure WDic (K : PySem.W.Frag) (w : World) (mg : Str → Option Value) (x : Str) (kvs : List (Str × Int)) : Prop where
  ex : ∃ a es n, mg x = some (.ref a) ∧ KDict K w a es n ∧ ∀ z, WFor K a kvs z
def dInW (f : Bool → Bool) (kvs : List (Str × Int)) (ty : DTE) : DTE := fun ρ G Q => ty ρ G fun d G1 => ∃ z, d = .str z ∧ Q (.bl (f (kvs.lookup z).isSome)) G1
def dGetW (kvs : List (Str × Int)) (ty : DTE) : DTE := fun ρ G Q => ty ρ G fun d G1 => ∃ z i, d = .str z ∧ kvs.lookup z = some i ∧ Q (.int i) G1
section
variable {X : Cx} {x : Str} {kvs : List (Str × Int)} {i : Expr} {ty : DTE} {pos p : Pos}
theorem w_in {f : Bool → Bool} {op : CmpOp} {a : Addr} (hw : ∀ z, WFor X.K a kvs z) {σ : St} {H : Hp} {Q : VK} (h : up X.K (dInW f kvs ty) σ H Q) :
    tOp (fun x y H Q => ∃ (z : Str) (r : Option Value), x = .str z ∧ y = .ref a ∧ PySem.W.nsIn X.K a z = some r ∧ Q (.bl (f r.isSome)) H) (up X.K ty) (tC (.ref a)) σ H Q := by
  obtain ⟨ρ, G, q, r, h, k⟩ := h
  refine ⟨ρ, G, _, r, h, fun v d H1 G1 e1 r1 v1 h1 => ?_⟩
  obtain ⟨z, rfl, h2⟩ := h1
  have hv : v = .str z := by unfold RepV at v1; exact v1
  subst hv
  have hz := hw z
  unfold WFor at hz
  show ∃ (z' : Str) (r : Option Value), V.str z = .str z' ∧ V.ref a = .ref a ∧ PySem.W.nsIn X.K a z' = some r ∧ Q (.bl (f r.isSome)) H1
  cases q1 : kvs.lookup z with
  | none => rw [q1] at hz h2; exact ⟨z, none, rfl, rfl, hz, k _ _ H1 G1 e1 r1 bl_rv h2⟩
  | some j => rw [q1] at hz h2; obtain ⟨t, ht⟩ := hz; exact ⟨z, some _, rfl, rfl, ht, k _ _ H1 G1 e1 r1 bl_rv h2⟩
theorem dt_inW {f : Bool → Bool} {op : CmpOp} (hop : op = .In ∧ f = id ∨ op = .NotIn ∧ f = not) (D : WDic X.K X.w X.mg x kvs) (hg : Gl X x) (hi : DE X i ty) (hd : (x == ("__debug__" : Str)) = false := by decide) (hm : behindInMarks op (.Name x p) = false := by rfl) :
    DT X (.Compare i [op] [.Name x p] pos) (dTst (dInW f kvs ty)) := by
  obtain ⟨a, es, n, h1, kd, hw⟩ := D.ex
  rcases hop with ⟨rfl, rfl⟩ | ⟨rfl, rfl⟩
  · exact (pt_cmpR (op_in_kd kd) hi (pe_glob hg h1 (v := .ref a) rfl hd) hm).imp fun σ H Q h => w_in (op := .In) (f := id) hw (up_tst h)
  · exact (pt_cmpR (op_notIn_kd kd) hi (pe_glob hg h1 (v := .ref a) rfl hd) hm).imp fun σ H Q h => w_in (op := .NotIn) (f := not) hw (up_tst h)
theorem de_getW (D : WDic X.K X.w X.mg x kvs) (hg : Gl X x) (hi : DE X i ty) (hd : (x == ("__debug__" : Str)) = false := by decide) (hs : PlainIx i := by exact fun _ _ => rfl) : DE X (.Subscript (.Name x p) i pos) (dGetW kvs ty) := by
  obtain ⟨a, es, n, h1, kd, hw⟩ := D.ex
  refine (pe_ix ix_kdict (pe_glob hg h1 (v := .ref a) rfl hd) hi hs).imp fun σ H Q ⟨ρ, G, q, r, h, k⟩ => ?_
  refine ⟨ρ, G, _, r, h, fun v d H1 G1 e1 r1 v1 h1 => ?_⟩
  obtain ⟨z, j, rfl, hl, h2⟩ := h1
  have hv : v = .str z := by unfold RepV at v1; exact v1
  subst hv
  have hz := hw z
  unfold WFor at hz
  rw [hl] at hz
  obtain ⟨t, ht⟩ := hz
  exact ⟨a, z, .int j, rfl, rfl, ⟨es, n, _, kd.at_, kd.lit, ht, ⟨t, rfl⟩⟩, k _ _ H1 G1 e1 r1 int_rv h2⟩
end

def dicI (K : PySem.W.Frag) (a : Addr) (kvs : List (Str × Int)) : Bool := kvs.all fun q => match PySem.W.nsIn K a q.1 with
  | some (some (.int j _)) => decide (j = q.2)
  | _ => false
theorem lookup_mem {z : Str} {i : Int} : ∀ {kvs : List (Str × Int)}, kvs.lookup z = some i → (z, i) ∈ kvs
  | (g, j) :: r, h => by
    by_cases hg : z = g
    · have hb : (z == g) = true := beq_iff_eq.mpr hg
      simp only [List.lookup, hb, Option.some.injEq] at h
      subst h; subst hg
      exact List.mem_cons_self ..
    · have hb : (z == g) = false := beq_eq_false_iff_ne.mpr hg
      simp only [List.lookup, hb] at h
      exact List.mem_cons_of_mem _ (lookup_mem h)
theorem lookup_no {z : Str} : ∀ {kvs : List (Str × Int)}, kvs.lookup z = none → z ∉ kvs.map (·.1)
  | [], _ => by simp
  | (g, j) :: r, h => by
    by_cases hg : z = g
    · have hb : (z == g) = true := beq_iff_eq.mpr hg
      simp only [List.lookup, hb] at h
      cases h
    · have hb : (z == g) = false := beq_eq_false_iff_ne.mpr hg
      simp only [List.lookup, hb] at h
      simp only [List.map_cons, List.mem_cons, not_or]
      exact ⟨hg, lookup_no h⟩
theorem keys_no {P : Params} {z : Str} : ∀ {l : List DictEntry} {ks : List Str}, l.map He.keyOf = He.keysIn P ks → z ∉ ks → l.find? (·.key.isStr z) = none ∧ l.any (·.refKey) = false
  | [], _, _, _ => ⟨rfl, rfl⟩
  | e :: r, [], h, _ => by cases h
  | e :: r, k :: ks, h, hz => by
    have h1 : He.keyOf e :: r.map He.keyOf = some (k, PyData.keyHash P k) :: He.keysIn P ks := h
    injection h1 with h2 h3
    simp only [List.mem_cons, not_or] at hz
    obtain ⟨a, b⟩ := keys_no h3 hz.2
    unfold He.keyOf at h2
    split at h2
    · rename_i y t q
      have h4 := Option.some.inj h2
      obtain ⟨h5, h6⟩ := Prod.mk.inj h4
      have f1 : e.key.isStr z = false := by
        rw [q]
        show (y == z) = false
        rw [h5]
        exact beq_eq_false_iff_ne.mpr (fun he => hz.1 he.symm)
      refine ⟨by rw [List.find?_cons, f1]; exact a, ?_⟩
      rw [List.any_cons, b, Bool.or_false]
      unfold DictEntry.refKey
      rw [q]
    · cases h2
theorem wfor_of {K : PySem.W.Frag} {w : World} {a : Addr} {es : Array DictEntry} {n : Nat} {kvs : List (Str × Int)} (kd : KDict K w a es n) (hk : es.toList.map He.keyOf = He.keysIn w.params (kvs.map (·.1))) (hv : dicI K a kvs = true) (z : Str) : WFor K a kvs z := by
  unfold WFor
  cases q : kvs.lookup z with
  | some i =>
    have h2 := List.all_eq_true.mp hv _ (lookup_mem q)
    dsimp only at h2 ⊢
    cases e : PySem.W.nsIn K a z with
    | none => rw [e] at h2; cases h2
    | some o =>
      rw [e] at h2
      cases o with
      | none => cases h2
      | some u =>
        cases u with
        | int j t => exact ⟨t, by rw [of_decide_eq_true h2]⟩
        | _ => cases h2
  | none =>
    obtain ⟨f1, f2⟩ := keys_no (z := z) hk (lookup_no q)
    dsimp only
    unfold PySem.W.nsIn
    rw [kd.at_]
    dsimp only
    rw [f1]
    dsimp only
    rw [f2]
    rfl
theorem dicW_keys {K : PySem.W.Frag} {w : World} {a : Addr} {ks : List Str} (h : He.dicW K a = some (He.keysIn w.params ks)) : ∃ es n, KDict K w a es n ∧ es.toList.map He.keyOf = He.keysIn w.params ks := by
  obtain ⟨es, n, kd⟩ := He.dicW_ok h
  refine ⟨es, n, kd, ?_⟩
  unfold He.dicW at h
  rw [kd.at_] at h
  dsimp only at h
  have e1 : (decide (("dict" : String) = "dict") && ((#[] : Array (Option Value)).isEmpty && !(a == sysModules))) = true := by
    rw [kd.low]; decide
  rw [e1] at h
  exact Option.some.inj h
abbrev TabX : Type := Str × List (Str × Int)
def obsXT (fx : List Fx) (fn : List He.DefD) (ts : List TabX) (K : PySem.W.Frag) : He.AlT := (obsX (fx ++ ts.map fun t => .fa (.glo t.1)) fn K, (ts.map fun t => match dicI K (He.ga K t.1) t.2 with
  | true => He.dicW K (He.ga K t.1)
  | false => none))
def valXT (fn : List He.DefD) (ts : List TabX) (w : World) : He.AlT := (He.valD fn, ts.map fun t => some (He.keysIn w.params (t.2.map (·.1))))
def SaysXT (fx : List Fx) (fn : List He.DefD) (ts : List TabX) (w : World) (K : PySem.W.Frag) : Prop := obsXT fx fn ts K = valXT fn ts w
def obsXTG (n : Nat) (fx : List Fx) (fn : List He.DefD) (ts : List TabX) (g : Addr → Option Obj) : He.AlT := obsXT fx fn ts (He.frG g (He.asD g n))
def hookXT (n : Nat) (fx : List Fx) (fn : List He.DefD) (ts : List TabX) : PySem.W.Hook where
  α := He.AlT
  obs := fun s => obsXTG n fx fn ts s.heap.get?
  val := fun w => valXT fn ts w
  says := fun w h => ∃ K : PySem.W.Frag, K.In h ∧ SaysXT fx fn ts w K
  of := fun _ _ e => ⟨_, He.frG_in, e⟩
  keeps := fun _ _ _ ⟨K, hK, c⟩ k => ⟨K, PySem.W.Frag.In.keeps hK k, c⟩
theorem obsXTG_eq {n : Nat} {fx : List Fx} {fn : List He.DefD} {ts : List TabX} {g : Addr → Option Obj} {s : Shared} (h : ∀ a, g a = s.heap.get? a) : obsXTG n fx fn ts g = (hookXT n fx fn ts).obs s := by
  have e : g = s.heap.get? := funext h
  rw [e] <;> rfl
section
variable {fx : List Fx} {fn : List He.DefD} {ts : List TabX} {K : PySem.W.Frag} {w : World}
theorem SaysXT.x (c : SaysXT fx fn ts w K) : SaysX (fx ++ ts.map fun t => .fa (.glo t.1)) fn K := congrArg (fun z : He.AlT => z.1) c
theorem SaysXT.fact (c : SaysXT fx fn ts w K) (i : Nat) {f : Fx} (h : fx[i]? = some f := by rfl) : f.ok K = true := by
  have hi : i < fx.length := (List.getElem?_eq_some_iff.mp h).1
  exact c.x.fact i (by rw [List.getElem?_append_left hi]; exact h)
theorem SaysXT.def_ (c : SaysXT fx fn ts w K) (i : Nat) {d : He.DefD} (h : fn[i]? = some d := by rfl) : ∃ fd, FunD K d.name d.qual d.params d.body d.scope (d.dvs K) (d.kws K) (He.fAd K d.at_) fd := c.x.def_ i h
theorem SaysXT.tab {h : Heap} {mg : Str → Option Value} (X : K.In h) (Gn : h.Ns mainGlobals mg) (c : SaysXT fx fn ts w K) (i : Nat) {t : TabX} (ht : ts[i]? = some t := by rfl) : WDic K w mg t.1 t.2 := by
  have e : (ts.map fun t => match dicI K (He.ga K t.1) t.2 with
    | true => He.dicW K (He.ga K t.1)
    | false => none) = ts.map fun t => some (He.keysIn w.params (t.2.map (·.1))) := congrArg (fun z : He.AlT => z.2) c
  have e2 := congrArg (fun l => l[i]?) e
  rw [List.getElem?_map, List.getElem?_map, ht] at e2
  have e3 : (match dicI K (He.ga K t.1) t.2 with
    | true => He.dicW K (He.ga K t.1)
    | false => none) = some (He.keysIn w.params (t.2.map (·.1))) := Option.some.inj e2
  have hv : dicI K (He.ga K t.1) t.2 = true := by
    cases q : dicI K (He.ga K t.1) t.2 with
    | true => rfl
    | false => rw [q] at e3; cases e3
  rw [hv] at e3
  obtain ⟨es, n, kd, hk⟩ := dicW_keys e3
  have hg : (Fx.fa (.glo t.1)).ok K = true := c.x.fact (fx.length + i) (by
    rw [List.getElem?_append_right (Nat.le_add_right _ _), Nat.add_sub_cancel_left, List.getElem?_map, ht]
    rfl)
  exact ⟨_, es, n, He.glo_ok X Gn hg, kd, fun z => wfor_of kd hk hv z⟩
end
end Dl

namespace Dl
open PySem PySem.Spec PyProof.Rows L2
def ItzM (K : PySem.W.Frag) (a b : Addr) : It :=
  ⟨fun i H => ∃ (xs ys : List V) (x y : V), SqL K H a xs ∧ SqT K H b ys ∧ xs[i]? = some x ∧ ys[i]? = some y,
    fun i H v H' => ∃ T x y, v = .ref T ∧ H T = none ∧ H' = upd H T (.tup [x, y]) ∧ (∀ xs, SqL K H a xs → xs[i]? = some x) ∧ ∀ ys, SqT K H b ys → ys[i]? = some y,
    fun i H => ∃ xs ys : List V, SqL K H a xs ∧ SqT K H b ys ∧ (xs.length = i ∧ i ≤ ys.length ∨ ys.length = i ∧ i ≤ xs.length)⟩
def StM (z TI TO i1 i2 a b : Addr) (i : Nat) (h : Heap) : Prop := IsZip h z TI TO .none ∧ IsPair h TI (.ref i1) (.ref i2) ∧ (∃ x y, IsPair h TO x y) ∧ h.IsListIter i1 a i ∧ h.IsTupleIter i2 b i
section
variable {z TI TO i1 i2 a b : Addr}
theorem sepM (D : ZipApart z TI TO i1 i2 a b) : ZipSep2 z TI TO i1 i2 [i1, a] [i2, b] where
  TIz := D.TIz
  TOz := D.TOz
  TITO := D.TITO
  TIi1 := D.TIi1
  mem1 := by simp
  zf1 := by simp [D.i1z.symm, D.l1z.symm]
  Tf1 := by simp [D.TOi1, D.l1TO.symm]
  TIi2 := D.TIi2
  mem2 := by simp
  zf2 := by simp [D.i2z.symm, D.l2z.symm]
  Tf2 := by simp [D.TOi2, D.l2TO.symm]
  sep1_2 := by simp [D.i12, D.l2i1.symm]
  sep2_1 := by simp [D.i12.symm, D.l1i2.symm]
theorem five {c : Addr} (h : c ∈ [z, TI, TO, i1, i2]) : c = z ∨ c = TI ∨ c = TO ∨ c = i1 ∨ c = i2 := by simpa using h
theorem StM.there {i : Nat} {h : Heap} (st : StM z TI TO i1 i2 a b i h) {c : Addr} (hc : c ∈ [z, TI, TO, i1, i2]) : ∃ o, h.get? c = some o ∧ ∀ v, o.data ≠ .cell v := by
  obtain ⟨hz, hTI, ⟨x, y, hTO⟩, ⟨o1, e1, _, d1⟩, ⟨o2, e2, _, d2⟩⟩ := st
  rcases five hc with q | q | q | q | q
  · rw [q]; exact ⟨_, hz, fun v q => nomatch q⟩
  · rw [q]; exact ⟨_, hTI, fun v q => nomatch q⟩
  · rw [q]; exact ⟨_, hTO, fun v q => nomatch q⟩
  · rw [q]; exact ⟨o1, e1, fun v q => by rw [d1] at q; cases q⟩
  · rw [q]; exact ⟨o2, e2, fun v q => by rw [d2] at q; cases q⟩
theorem turn_zipM {P : Program} {w : World} {K : PySem.W.Frag} {elts : List Expr} {kk : Nat} {tpos : Pos} (D : ZipApart z TI TO i1 i2 a b) :
    Turn P w K (.Tuple elts kk tpos) (ItzM K a b) [z, TI, TO, i1, i2] z (StM z TI TO i1 i2 a b) where
  mem := by simp
  obj := fun i h st c hc => st.there hc
  keep := fun i h h' st k => by
    obtain ⟨hz, hTI, ⟨x, y, hTO⟩, h1, h2⟩ := st
    exact ⟨k z (by simp) _ hz, k TI (by simp) _ hTI, ⟨x, y, k TO (by simp) _ hTO⟩, h1.at fun o q => k i1 (by simp) o q, h2.at fun o q => k i2 (by simp) o q⟩
  item := by
    intro X hP hw hK hc i pins s σ H E I hf st hg
    subst hP hw hK
    have lt5 : ∀ c ∈ [z, TI, TO, i1, i2], c < s.heap.objs.size := fun c hcm => by obtain ⟨o, ho, _⟩ := st.there hcm; exact Heap.lt_size ho
    obtain ⟨hz, hTI, ⟨x0, y0, hTO⟩, h1, h2⟩ := st
    obtain ⟨xs, ys, x, y, hqx, hqy, hx, hy⟩ := hg
    obtain ⟨its, rv, p, _⟩ := I.list hqx
    obtain ⟨its2, rv2, p2, _⟩ := I.tuple hqy
    obtain ⟨u, hu, ru⟩ := rv.get hx
    obtain ⟨u2, hu2, ru2⟩ := rv2.get hy
    have hh : X.A.in1.handled = none := I.ok.hd hc
    have n1 : i < its.toArray.size := by
      have := (List.getElem?_eq_some_iff.mp hu).1
      simpa using this
    have n2 : i < its2.toArray.size := by
      have := (List.getElem?_eq_some_iff.mp hu2).1
      simpa using this
    refine wpAny_pyNext_zipD2_item (sepM D) (Draws.list hh i1 a D.l1i1 its.toArray) (Draws.tuple hh i2 b D.l2i2 its2.toArray) hz hTI hTO ⟨h1, p.isList⟩ ⟨h2, p2⟩ n1 n2 fun v1 v2 h' tk e1 e2 z' TO' s1' s2' hT hsz hk => ?_
    have ev1 : v1 = u := by
      have q : its.toArray[i]? = some v1 := e1
      rw [List.getElem?_toArray, hu] at q
      exact (Option.some.inj q).symm
    have ev2 : v2 = u2 := by
      have q : its2.toArray[i]? = some v2 := e2
      rw [List.getElem?_toArray, hu2] at q
      exact (Option.some.inj q).symm
    subst ev1 ev2
    have hzl : z < s.heap.objs.size := lt5 z (by simp)
    refine ⟨_, rfl, wpAny_letOwnedTupleGo_zip (s := { s with heap := h', toks := tk }) z' fun h'' z'' sb => ?_⟩
    have hT2 : h''.get? s.heap.objs.size = some { cls := .type "tuple", data := .seq #[v1, v2] } := (sb.2 _ (Nat.ne_of_gt hzl)).trans hT
    have new : ObjOk X.prog X.w (upd H s.heap.objs.size (.tup [x, y])) h'' s.heap.objs.size (.tup [x, y]) := ⟨by show 2 ≤ sizeLine; decide, [v1, v2], .cons ru (.cons ru2 .nil), ⟨_, hT2, rfl, _, rfl⟩⟩
    have I1 : L2.Inv X pins σ (upd H s.heap.objs.size (.tup [x, y])) { s with heap := h'', toks := tk } :=
      I.turnedNew (t' := tk) (ch := [z, TI, TO, i1, i2]) (fun c o hb q => (sb.2 c (fun q' => hb (by simp [q']))).trans (hk c o (fun q' => hb (by simp [q'])) (fun q' => hb (by simp [q'])) (fun q' => hb (by simp [q'])) (fun q' => hb (by simp [q'])) q)) hf (Nat.le_refl _) new
    refine ⟨.ref s.heap.objs.size, _, I1, rfl, ⟨_, x, y, rfl, I.hok.fresh (Nat.le_refl _), rfl, fun l hl => by rw [I.list_inj hl hqx]; exact hx, fun l hl => by rw [I.tuple_inj hl hqy]; exact hy⟩, ⟨z'', ?_, ⟨v1, v2, ?_⟩, ?_, ?_⟩, fun c hcm => ?_⟩
    · exact (sb.2 _ D.TIz).trans (hk _ _ D.TIz D.TITO D.TIi1 D.TIi2 hTI)
    · exact (sb.2 _ D.TOz).trans TO'
    · exact s1'.1.at fun o q => (sb.2 _ D.i1z).trans q
    · exact s2'.1.at fun o q => (sb.2 _ D.i2z).trans q
    · rw [upd_ne (Nat.ne_of_lt (lt5 c hcm))]
      exact (hf c hcm).1
  done := by
    intro X hP hw hK hc i pins s σ H E I hf st hg
    subst hP hw hK
    obtain ⟨hz, hTI, ⟨x0, y0, hTO⟩, h1, h2⟩ := st
    obtain ⟨xs, ys, hqx, hqy, hend⟩ := hg
    obtain ⟨its, rv, p, _⟩ := I.list hqx
    obtain ⟨its2, rv2, p2, _⟩ := I.tuple hqy
    have l1 := rv.length
    have l2 := rv2.length
    have hh : X.A.in1.handled = none := I.ok.hd hc
    refine wpAny_pyNext_zipD2_end (sepM D) (Draws.list hh i1 a D.l1i1 its.toArray) (Draws.tuple hh i2 b D.l2i2 its2.toArray) hz hTI hTO ⟨h1, p.isList⟩ ⟨h2, p2⟩ (by simp; omega) (by simp; omega) (by simp; omega) fun h' tk hk => ?_
    exact ⟨rfl, I.turnedL (t' := tk) (ch := [z, TI, TO, i1, i2]) (fun c o hb q => hk c o (fun q' => hb (by simp [q'])) (fun q' => hb (by simp [q'])) (fun q' => hb (by simp [q'])) (fun q' => hb (by simp [q'])) q) hf⟩
  self := fun A i s Q E st h => wpAny_pyIter_zip st.1 h
end
def iZipM (K : PySem.W.Frag) (ta : TA) : TI := fun σ H R => ta σ H fun vs H1 => ∃ a b xs ys, vs = [.ref a, .ref b] ∧ SqL K H1 a xs ∧ SqT K H1 b ys ∧ R (ItzM K a b) H1
theorem pi_zipM {X : Cx} {e e2 : Expr} {ta : TA} {p pos tpos : Pos} {elts : List Expr} {kk : Nat} (hg : Gl X "zip") (hm : X.mg "zip" = none) (ha : PA X [e, e2] ta)
    (hs : starEach [e, e2] X.env = (false, eval e X.env) :: starEach [e2] X.env := by rfl) (hpl : (backTo pos (starEach [e2] X.env)).any (·.1) = false := by rfl) :
    PI X (.Tuple elts kk tpos) (.Call (.Name "zip" p) [e, e2] [] pos) (iZipM X.K ta) := by
  refine ⟨fun pins s σ H R I h => ?_⟩
  refine Call_ (ld_blt I hg hm PyProof.Rows.boot_zip (PyProof.Rows.callWith_type1 (thn (ha.run pos pins s σ H _ I h) fun us s1 ⟨vs, H1, I1, r1, a, b, xs, ys, ex, hqx, hqy, q⟩ => ?_) hs hpl))
  subst ex
  obtain ⟨u, v, rfl, ru, rv0⟩ : ∃ u v, us = [u, v] ∧ RelV (.ref a) u ∧ RelV (.ref b) v := by
    cases r1 with
    | cons r rr =>
      cases rr with
      | cons r' rr => cases rr; exact ⟨_, _, rfl, r, r'⟩
  cases ru
  cases rv0
  obtain ⟨its, rv, p1, _⟩ := I1.list hqx
  obtain ⟨its2, rv2, p2, _⟩ := I1.tuple hqy
  have p2' : s1.heap.IsTuple b its2.toArray := p2
  obtain ⟨o2, ho2, _⟩ := id p2'
  refine zip_begins2 (begins_list a its.toArray) (begins_tuple b its2.toArray) p1.isList p2' fun h' hz hTI hTO h1 h2 hsz hk => wpAny_pyIter_zip hz ?_
  have I2 : L2.Inv X pins σ H1 { s1 with heap := h' } := I1.kept (t' := s1.toks) hk
  refine ⟨s1.heap.objs.size + 4, [s1.heap.objs.size + 4, s1.heap.objs.size + 2, s1.heap.objs.size + 3, s1.heap.objs.size, s1.heap.objs.size + 1], _, _, H1, rfl, I2, turn_zipM (PySem.W.ktu_apart s1.heap.objs.size a b p1.lt (Heap.lt_size ho2)),
    ⟨hz, hTI, ⟨_, _, hTO⟩, ⟨_, h1, rfl, rfl⟩, ⟨_, h2, rfl, rfl⟩⟩, fun c hc => ?_, q⟩
  have hle : s1.heap.objs.size ≤ c := by
    rcases five hc with z | z | z | z | z <;> rw [z] <;> omega
  exact I1.fpOk hle (I1.hok.fresh hle)
def zipD (xs ys : List D) : List D := (xs.zip ys).map fun q => D.tup [q.1, q.2]
theorem zipD_get {xs ys : List D} {i : Nat} {d : D} (h : (zipD xs ys)[i]? = some d) : ∃ x y, xs[i]? = some x ∧ ys[i]? = some y ∧ d = .tup [x, y] := by
  unfold zipD at h
  rw [List.getElem?_map] at h
  cases q : (xs.zip ys)[i]? with
  | none => rw [q] at h; cases h
  | some z =>
    rw [q] at h
    obtain ⟨h1, h2⟩ := List.getElem?_zip_eq_some.mp q
    exact ⟨z.1, z.2, h1, h2, (Option.some.inj h).symm⟩
theorem zipD_len (xs ys : List D) : (zipD xs ys).length = min xs.length ys.length := by simp [zipD]
@[simp] def iZpM (t : DTA) : DTI := fun ρ G Q => t ρ G fun ds G1 => match ds with
  | [.lst xs, .tup ys] => Q (zipD xs ys) okAll G1
  | _ => False
@[simp] def iEnL (te : DTE) : DTI := fun ρ G Q => te ρ G fun d G1 => match d with
  | .lst ds => Q (enumD ds) okAll G1
  | _ => False
section
variable {X : Cx}
theorem di_zipM {e e2 : Expr} {t : DTA} {p pos tpos : Pos} {elts : List Expr} {kk : Nat} (hg : Gl X "zip") (hm : X.mg "zip" = none) (he : DA X [e, e2] t)
    (hs : starEach [e, e2] X.env = (false, eval e X.env) :: starEach [e2] X.env := by rfl) (hpl : (backTo pos (starEach [e2] X.env)).any (·.1) = false := by rfl) :
    DI X (.Tuple elts kk tpos) (.Call (.Name "zip" p) [e, e2] [] pos) (iZpM t) := by
  refine (pi_zipM hg hm he hs hpl).imp fun σ H R ⟨ρ, G, q, r, h, k⟩ => ?_
  refine ⟨ρ, G, _, r, h, fun vs ds H1 G1 e1 r1 v1 h1 => ?_⟩
  obtain ⟨xs, ys, rfl, h2⟩ : ∃ xs ys, ds = [.lst xs, .tup ys] ∧ q (zipD xs ys) okAll G1 := by
    split at h1
    · exact ⟨_, _, rfl, h1⟩
    · exact h1.elim
  unfold RepL at v1
  obtain ⟨v, vr, rfl, v1, v2⟩ := v1
  unfold RepL at v2
  obtain ⟨w, wr, rfl, v2, v3⟩ := v2
  unfold RepL at v3
  subst v3
  unfold RepV at v1 v2
  obtain ⟨a, us, rfl, la, rl⟩ := v1
  obtain ⟨b, ws, rfl, tb, rt⟩ := v2
  refine ⟨a, b, us, ws, rfl, la.sq, tb.sq, k _ (zipD xs ys) okAll H1 G1 e1 r1 (fun G2 H2 e2 g2 _ i => ⟨fun d hd => ?_, fun hi => ⟨us, ws, (la.ext e2).sq, (tb.ext e2).sq, ?_⟩⟩) h2⟩
  · obtain ⟨x, y, hx, hy, rfl⟩ := zipD_get hd
    obtain ⟨u, hu, ru⟩ := (rl.ext e2).get hx
    obtain ⟨w, hw, rw'⟩ := (rt.ext e2).get hy
    refine ⟨⟨us, ws, u, w, (la.ext e2).sq, (tb.ext e2).sq, hu, hw⟩, fun z H3 hz => ?_⟩
    obtain ⟨T, x', y', rfl, hT, rfl, f1, f2⟩ := hz
    have q1 := f1 us (la.ext e2).sq
    have q2 := f2 ws (tb.ext e2).sq
    rw [hu] at q1
    rw [hw] at q2
    cases q1
    cases q2
    obtain ⟨e3, g3, v3⟩ := new_tup g2 hT (repL_cons ru (repL_one rw'))
    exact ⟨e3, g3, v3⟩
  · have l1 := rl.length
    have l2 := rt.length
    rw [zipD_len] at hi
    omega
theorem di_enumL {e : Expr} {te : DTE} {p pos tpos : Pos} {elts : List Expr} {kk : Nat} (hg : Gl X "enumerate") (hm : X.mg "enumerate" = none) (he : DE X e te) (hs : starEach [e] X.env = [(false, eval e X.env)] := by rfl) :
    DI X (.Tuple elts kk tpos) (.Call (.Name "enumerate" p) [e] [] pos) (iEnL te) := by
  refine (pi_enum hg hm (pa_cons he pa_nil (by rw [hs]; rfl)) hs).imp fun σ H R ⟨ρ, G, q, r, h, k⟩ => ?_
  refine ⟨ρ, G, _, r, h, fun v d H1 G1 e1 r1 v1 h1 => ?_⟩
  cases d with
  | lst ds =>
    unfold RepV at v1
    obtain ⟨a, xs, rfl, ta, rl⟩ := v1
    refine ⟨a, xs, rfl, ta.sq, k _ (enumD ds) okAll H1 G1 e1 r1 (fun G2 H2 e2 g2 _ i => ⟨fun d hd => ?_, fun hi => ⟨xs, (ta.ext e2).sq, by rw [rl.length, hi, enumD_len]; exact Nat.le_refl _⟩⟩) h1⟩
    obtain ⟨x, hx, rfl⟩ := enumD_get hd
    obtain ⟨w, hw, rw'⟩ := (rl.ext e2).get hx
    refine ⟨⟨xs, w, (ta.ext e2).sq, hw⟩, fun y H3 hy => ?_⟩
    obtain ⟨T, z, rfl, hT, rfl, hz⟩ := hy
    have ez := hz xs (ta.ext e2).sq
    rw [hw] at ez
    cases ez
    obtain ⟨e3, g3, v3⟩ := new_tup g2 hT (repL_cons (int_rv (i := (i : Nat))) (repL_one rw'))
    exact ⟨e3, g3, v3⟩
  | _ => exact h1.elim
end
end Dl

namespace Dl
open PySem L2
abbrev KT := List Key
def getT : List (KT × D) → KT → Option D
  | [], _ => none
  | p :: r, k => if p.1 = k then some p.2 else getT r k
def putT (kvs : List (KT × D)) (k : KT) (d : D) : List (KT × D) :=
  if (kvs.any fun kv => decide (kv.1 = k)) = true then kvs.map (fun kv => if kv.1 = k then (kv.1, d) else kv) else kvs ++ [(k, d)]
section
variable {K : PySem.W.Frag} {G : GH} {H : Hp} {k : KT}
theorem cons_rep {p : KT × D} {q : KT × V} {kvs : List (KT × D)} {ws : List (KT × V)} (rl : RepL K G H ((p :: kvs).map (·.2)) ((q :: ws).map (·.2))) : RepV K G H p.2 q.2 ∧ RepL K G H (kvs.map (·.2)) (ws.map (·.2)) := by
  simp only [List.map_cons] at rl
  unfold RepL at rl
  obtain ⟨x, r, e2, h1, h2⟩ := rl
  simp only [List.cons.injEq] at e2
  rw [e2.1, e2.2]
  exact ⟨h1, h2⟩
theorem getT_rep : ∀ {kvs : List (KT × D)} {ws : List (KT × V)} {d : D}, ws.map (·.1) = kvs.map (·.1) → RepL K G H (kvs.map (·.2)) (ws.map (·.2)) → getT kvs k = some d → ∃ v, valV ws k = some v ∧ RepV K G H d v
  | [], _, _, _, _, h => by cases h
  | _ :: _, [], _, e, _, _ => by simp at e
  | p :: kvs, q :: ws, d, e, rl, h => by
    simp only [List.map_cons, List.cons.injEq] at e
    obtain ⟨h1, h2⟩ := cons_rep rl
    unfold getT at h
    by_cases hk : p.1 = k
    · rw [if_pos hk] at h
      cases h
      exact ⟨q.2, valV_pos (e.1.trans hk), h1⟩
    · rw [if_neg hk] at h
      obtain ⟨v, i1, i2⟩ := getT_rep e.2 h2 h
      exact ⟨v, (valV_neg (fun z => hk (e.1.symm.trans z))).trans i1, i2⟩
theorem putT_rep {d : D} {v : V} (rv : RepV K G H d v) {kvs : List (KT × D)} {ws : List (KT × V)} (e : ws.map (·.1) = kvs.map (·.1)) (rl : RepL K G H (kvs.map (·.2)) (ws.map (·.2))) :
    (putK ws k v).map (·.1) = (putT kvs k d).map (·.1) ∧ RepL K G H ((putT kvs k d).map (·.2)) ((putK ws k v).map (·.2)) := by
  have hany : (ws.any fun kv => decide (kv.1 = k)) = kvs.any fun kv => decide (kv.1 = k) := by
    have h1 : ∀ (l : List (KT × V)), (l.any fun kv => decide (kv.1 = k)) = (l.map (·.1)).any fun z => decide (z = k) := fun l => by simp [List.any_map, Function.comp_def]
    have h2 : ∀ (l : List (KT × D)), (l.any fun kv => decide (kv.1 = k)) = (l.map (·.1)).any fun z => decide (z = k) := fun l => by simp [List.any_map, Function.comp_def]
    rw [h1, h2, e]
  unfold putK putT
  rw [hany]
  by_cases ha : (kvs.any fun kv => decide (kv.1 = k)) = true
  · rw [if_pos ha, if_pos ha]
    clear hany ha
    induction kvs generalizing ws with
    | nil =>
      cases ws with
      | nil => exact ⟨rfl, repL_nil⟩
      | cons q ws => simp at e
    | cons p kvs ih =>
      cases ws with
      | nil => simp at e
      | cons q ws =>
        obtain ⟨h1, h2⟩ := cons_rep rl
        simp only [List.map_cons, List.cons.injEq] at e
        obtain ⟨i1, i2⟩ := ih e.2 h2
        simp only [List.map_cons]
        by_cases hk : p.1 = k
        · rw [if_pos hk, if_pos (e.1.trans hk)]
          exact ⟨by rw [i1, e.1], repL_cons rv i2⟩
        · rw [if_neg hk, if_neg (fun z => hk (e.1.symm.trans z))]
          exact ⟨by rw [i1, e.1], repL_cons h1 i2⟩
  · rw [if_neg ha, if_neg ha]
    simp only [List.map_append, List.map_cons, List.map_nil]
    exact ⟨by rw [e], rl.append (repL_one rv)⟩
end

def numK (ds : List D) : Option KT := ds.mapM fun d => match d with
  | .int i => if 0 ≤ i then some (.inl i) else none
  | _ => none
def keyN : D → Option KT
  | .tup ds => numK ds
  | _ => none
def tupB (o : Obj) : Bool := match o.cls, o.data with
  | .type c, .seq its _ => if c = "tuple" then (match its.toList with
    | [] => true
    | .int i _ :: _ => decide (i < 0)
    | _ => true) else true
  | _, _ => true
def knoB (K : PySem.W.Frag) : Bool := (K.all fun p => tupB p.2) && !kempB K
def KNo (K : PySem.W.Frag) : Prop := knoB K = true
theorem lookup_in {a : Addr} {o : Obj} : ∀ {K : PySem.W.Frag}, K.lookup a = some o → ∃ b, (b, o) ∈ K
  | (b, u) :: r, h => by
    by_cases hb : (a == b) = true
    · simp only [List.lookup, hb, Option.some.injEq] at h
      subst h
      exact ⟨b, List.mem_cons_self ..⟩
    · have hb' : (a == b) = false := by simpa using hb
      simp only [List.lookup, hb'] at h
      obtain ⟨c, hc⟩ := lookup_in h
      exact ⟨c, List.mem_cons_of_mem _ hc⟩
theorem numK_cons {d : D} {ds : List D} {k : KT} (h : numK (d :: ds) = some k) : ∃ i r, d = .int i ∧ 0 ≤ i ∧ numK ds = some r ∧ k = .inl i :: r := by
  unfold numK at h ⊢
  rw [List.mapM_cons] at h
  cases d with
  | int i =>
    dsimp only at h
    by_cases hi : 0 ≤ i
    · rw [if_pos hi] at h
      cases q : (ds.mapM fun d => match d with
        | .int i => if 0 ≤ i then some (Sum.inl i : Key) else none
        | _ => none) with
      | none => rw [q] at h; cases h
      | some r => rw [q] at h; cases h; exact ⟨i, r, rfl, hi, rfl, rfl⟩
    · rw [if_neg hi] at h; cases h
  | _ => cases h
theorem num_rep {K : PySem.W.Frag} {G : GH} {H : Hp} : ∀ {ds : List D} {xs : List V} {k : KT}, RepL K G H ds xs → numK ds = some k → xs = k.map kV
  | [], xs, k, r, h => by
    unfold RepL at r
    have : k = [] := by unfold numK at h; rw [List.mapM_nil] at h; cases h; rfl
    subst this; subst r; rfl
  | d :: ds, xs, k, r, h => by
    obtain ⟨i, q, rfl, _, hq, rfl⟩ := numK_cons h
    unfold RepL at r
    obtain ⟨x, t, rfl, h1, h2⟩ := r
    rw [num_rep h2 hq, rv_int h1]
    rfl
theorem key_at {K : PySem.W.Frag} {G : GH} {H : Hp} {d : D} {v : V} {k : KT} (kn : KNo K) (r : RepV K G H d v) (h : keyN d = some k) : ∃ b, v = .ref b ∧ H b = some (.tup (k.map kV)) := by
  cases d with
  | tup ds =>
    have h : numK ds = some k := h
    unfold RepV at r
    obtain ⟨a, xs, rfl, t, rl⟩ := r
    have ex := num_rep rl h
    rcases t with ⟨_, t⟩ | ⟨h0, o, its, n, hk, hc, hd, _, rv⟩
    · exact ⟨a, rfl, by rw [t, ex]⟩
    · exfalso
      obtain ⟨b, hb⟩ := lookup_in hk
      unfold KNo knoB at kn
      rw [Bool.and_eq_true] at kn
      have hb2 := List.all_eq_true.mp kn.1 _ hb
      unfold tupB at hb2
      dsimp only at hb2
      rw [hc, hd] at hb2
      dsimp only at hb2
      rw [if_pos rfl] at hb2
      cases ds with
      | nil =>
        unfold RepL at rl
        have := h0 rl
        rw [this] at kn
        exact absurd kn.2 (by decide)
      | cons d ds =>
        obtain ⟨i, q, rfl, hi, hq, rfl⟩ := numK_cons h
        rw [ex] at rv
        cases q2 : its.toList with
        | nil => rw [q2] at rv; cases rv
        | cons u us =>
          rw [q2] at rv hb2
          cases rv with
          | cons r1 r2 =>
            obtain ⟨tk, rfl⟩ := r1
            have := of_decide_eq_true hb2
            omega
  | _ => cases h
def dNewT : DTE := fun _ G Q => ∀ p, G p = none → Q (.ref p) (updG G p (.dtp []))
def dDGetT (td ty : DTE) : DTE := fun ρ G Q => td ρ G fun x G1 => ty ρ G1 fun y G2 => ∃ a kvs k v, x = .ref a ∧ G2 a = some (.dtp kvs) ∧ keyN y = some k ∧ getT kvs k = some v ∧ Q v G2
def sDtp : DSet := fun o i d G Q => ∃ a kvs k, o = .ref a ∧ G a = some (.dtp kvs) ∧ keyN i = some k ∧ kvs.length < sizeLine ∧ Q (updG G a (.dtp (putT kvs k d)))
section
variable {X : Cx}
theorem de_newT {pos : Pos} : DE X (.Dict [] [] pos) dNewT := by
  refine (pe_dnewT (X := X)).imp fun σ H Q ⟨ρ, G, q, r, h, k⟩ p hp => ?_
  have e : Ext G H (updG G p (.dtp [])) (upd H p (.dT [])) := Ext.newG hp
  exact k _ _ _ _ e (r.ext e (r.gok.put e ⟨[], upd_same, rfl, repL_nil⟩)) (by unfold RepV; rfl) (h p (r.gok.fresh hp))
theorem de_dgetT {o i : Expr} {td ty : DTE} {pos : Pos} (kn : KNo X.K) (hu : X.A.units + 1 < cLine) (ho : DE X o td) (hi : DE X i ty) (hs : NoSl i := by exact fun _ _ => rfl) : DE X (.Subscript o i pos) (dDGetT td ty) := by
  refine (pe_dget hu ho hi hs).imp fun σ H Q ⟨ρ, G, q, r, h, k⟩ => ?_
  refine ⟨ρ, G, _, r, h, fun x dx H1 G1 e1 r1 v1 h1 => ?_⟩
  refine ⟨ρ, G1, _, r1, h1, fun y dy H2 G2 e2 r2 v2 h2 => ?_⟩
  obtain ⟨a, kvs, kk, d, rfl, hg, hk, hd, h3⟩ := h2
  cases rv_ref v1
  obtain ⟨ws, w1, w2, w3⟩ := r2.gok a _ hg
  obtain ⟨b, rfl, hb⟩ := key_at kn v2 hk
  obtain ⟨v, e3, rw'⟩ := getT_rep w2 w3 hd
  refine ⟨a, v, rfl, ?_, k v d H2 G2 (e1.trans e2) r2 rw' h3⟩
  rw [← e3]
  exact DGet.t w1 hb
theorem set_dtp (kn : KNo X.K) (hu : X.A.units + 1 < cLine) : PSet X (upSet X.K sDtp) := by
  intro pins s σ H o i v ov iv u Q I ro ri rv h
  obtain ⟨G, dO, di, d, q, g, vo, vi, vd, h, k⟩ := h
  obtain ⟨a, kvs, kk, rfl, hg, hk, hl, h3⟩ := h
  cases rv_ref vo
  obtain ⟨ws, w1, w2, w3⟩ := g a _ hg
  obtain ⟨b, rfl, hb⟩ := key_at kn vi hk
  have ln : ws.length = kvs.length := by simpa using congrArg List.length w2
  have e : Ext G H (updG G a (.dtp (putT kvs kk d))) (upd H a (.dT (putK ws kk v))) := Ext.write hg
  obtain ⟨p1, p2⟩ := putT_rep (k := kk) vd w2 w3
  obtain rfl : ov = Value.ref a := ro
  refine d_setItem hu I (DPut.t w1 hb (by rw [ln]; exact hl)) ri rv fun s4 I4 => ⟨_, I4, ?_⟩
  exact k _ _ e (g.put e ⟨_, upd_same, p1, p2.ext e⟩) h3
end
end Dl

namespace K12
open PySem L2 Dl
open PyProof.Rows
def top (i : Nat) : Stmt := PySem.Challenge.pw_honestbars_k12_whole_parts_and_bounds.main.body.getD i (.Pass ⟨0, 0, 0, 0⟩)
abbrev s_is_integer : Stmt := top 9
abbrev s_is_number : Stmt := top 10
abbrev s_is_amount : Stmt := top 11
abbrev s_work_word : Stmt := top 12
abbrev s_inner_works : Stmt := top 13
abbrev s_form_fault : Stmt := top 14
abbrev s_inner_pairs : Stmt := top 15
abbrev s_work_fault : Stmt := top 16
abbrev s_is_work : Stmt := top 17
abbrev s_require_usable : Stmt := top 19
abbrev s_all_pairs : Stmt := top 20
abbrev s_works_along : Stmt := top 21
abbrev s_put_inner : Stmt := top 22
abbrev s_put_along : Stmt := top 23
abbrev s_parts_of : Stmt := top 24
abbrev s_part_at : Stmt := top 25
abbrev s_with_part : Stmt := top 26
abbrev s_size_of : Stmt := top 27
abbrev s_depth_of : Stmt := top 28
abbrev s_loops_of : Stmt := top 29
abbrev s_counted_along : Stmt := top 30
abbrev s_bounds_of : Stmt := top 31
abbrev s_with_told : Stmt := top 32
abbrev s_told_first : Stmt := top 33
abbrev s_told_last : Stmt := top 34
abbrev s_with_bounds : Stmt := top 35
abbrev s_is_path_of : Stmt := top 36
abbrev s_told_at : Stmt := top 37
abbrev s_require_paper : Stmt := top 39
abbrev s_fewest_ticks : Stmt := top 40
abbrev s_lets_work : Stmt := top 41
abbrev s_law_feed : Stmt := top 43
abbrev s_law_draw : Stmt := top 44
abbrev s_law_subs : Stmt := top 45
abbrev s_law_fewest : Stmt := top 46
abbrev s_law_bounds : Stmt := top 47
abbrev s_law_free_work : Stmt := top 48
abbrev s_law_work : Stmt := top 49
abbrev s_law_second : Stmt := top 50
abbrev s_law_parts_right : Stmt := top 51
abbrev s_law_loops_right : Stmt := top 52
abbrev s_law_apart_right : Stmt := top 53
abbrev s_law : Stmt := top 54
def d_is_integer_ : He.DefD := ⟨("is_integer", none), "is_integer", "is_integer", defArgs s_is_integer, defBody s_is_integer, defScope s_is_integer, [], []⟩
def d_is_number_ : He.DefD := ⟨("is_number", none), "is_number", "is_number", defArgs s_is_number, defBody s_is_number, defScope s_is_number, [], []⟩
def d_is_amount_ : He.DefD := ⟨("is_amount", none), "is_amount", "is_amount", defArgs s_is_amount, defBody s_is_amount, defScope s_is_amount, [], []⟩
def d_work_word_ : He.DefD := ⟨("work_word", none), "work_word", "work_word", defArgs s_work_word, defBody s_work_word, defScope s_work_word, [], []⟩
def d_inner_works_ : He.DefD := ⟨("inner_works", none), "inner_works", "inner_works", defArgs s_inner_works, defBody s_inner_works, defScope s_inner_works, [], []⟩
def d_form_fault_ : He.DefD := ⟨("form_fault", none), "form_fault", "form_fault", defArgs s_form_fault, defBody s_form_fault, defScope s_form_fault, [], []⟩
def d_inner_pairs_ : He.DefD := ⟨("inner_pairs", none), "inner_pairs", "inner_pairs", defArgs s_inner_pairs, defBody s_inner_pairs, defScope s_inner_pairs, [], []⟩
def d_work_fault_ : He.DefD := ⟨("work_fault", none), "work_fault", "work_fault", defArgs s_work_fault, defBody s_work_fault, defScope s_work_fault, [], []⟩
def d_is_work_ : He.DefD := ⟨("is_work", none), "is_work", "is_work", defArgs s_is_work, defBody s_is_work, defScope s_is_work, [], []⟩
def d_require_usable_ : He.DefD := ⟨("require_usable", none), "require_usable", "require_usable", defArgs s_require_usable, defBody s_require_usable, defScope s_require_usable, [], []⟩
def d_all_pairs_ : He.DefD := ⟨("all_pairs", none), "all_pairs", "all_pairs", defArgs s_all_pairs, defBody s_all_pairs, defScope s_all_pairs, [], []⟩
def d_works_along_ : He.DefD := ⟨("works_along", none), "works_along", "works_along", defArgs s_works_along, defBody s_works_along, defScope s_works_along, [], []⟩
def d_put_inner_ : He.DefD := ⟨("put_inner", none), "put_inner", "put_inner", defArgs s_put_inner, defBody s_put_inner, defScope s_put_inner, [], []⟩
def d_put_along_ : He.DefD := ⟨("put_along", none), "put_along", "put_along", defArgs s_put_along, defBody s_put_along, defScope s_put_along, [], []⟩
def d_parts_of_ : He.DefD := ⟨("parts_of", none), "parts_of", "parts_of", defArgs s_parts_of, defBody s_parts_of, defScope s_parts_of, [], []⟩
def d_part_at_ : He.DefD := ⟨("part_at", none), "part_at", "part_at", defArgs s_part_at, defBody s_part_at, defScope s_part_at, [], []⟩
def d_with_part_ : He.DefD := ⟨("with_part", none), "with_part", "with_part", defArgs s_with_part, defBody s_with_part, defScope s_with_part, [], []⟩
def d_size_of_ : He.DefD := ⟨("size_of", none), "size_of", "size_of", defArgs s_size_of, defBody s_size_of, defScope s_size_of, [], []⟩
def d_depth_of_ : He.DefD := ⟨("depth_of", none), "depth_of", "depth_of", defArgs s_depth_of, defBody s_depth_of, defScope s_depth_of, [], []⟩
def d_loops_of_ : He.DefD := ⟨("loops_of", none), "loops_of", "loops_of", defArgs s_loops_of, defBody s_loops_of, defScope s_loops_of, [], []⟩
def d_counted_along_ : He.DefD := ⟨("counted_along", none), "counted_along", "counted_along", defArgs s_counted_along, defBody s_counted_along, defScope s_counted_along, [], []⟩
def d_bounds_of_ : He.DefD := ⟨("bounds_of", none), "bounds_of", "bounds_of", defArgs s_bounds_of, defBody s_bounds_of, defScope s_bounds_of, [], []⟩
def d_with_told_ : He.DefD := ⟨("with_told", none), "with_told", "with_told", defArgs s_with_told, defBody s_with_told, defScope s_with_told, [], []⟩
def d_told_first_ : He.DefD := ⟨("told_first", none), "told_first", "told_first", defArgs s_told_first, defBody s_told_first, defScope s_told_first, [], []⟩
def d_told_last_ : He.DefD := ⟨("told_last", none), "told_last", "told_last", defArgs s_told_last, defBody s_told_last, defScope s_told_last, [], []⟩
def d_with_bounds_ : He.DefD := ⟨("with_bounds", none), "with_bounds", "with_bounds", defArgs s_with_bounds, defBody s_with_bounds, defScope s_with_bounds, [], []⟩
def d_is_path_of_ : He.DefD := ⟨("is_path_of", none), "is_path_of", "is_path_of", defArgs s_is_path_of, defBody s_is_path_of, defScope s_is_path_of, [], []⟩
def d_told_at_ : He.DefD := ⟨("told_at", none), "told_at", "told_at", defArgs s_told_at, defBody s_told_at, defScope s_told_at, [], []⟩
def d_require_paper_ : He.DefD := ⟨("require_paper", none), "require_paper", "require_paper", defArgs s_require_paper, defBody s_require_paper, defScope s_require_paper, [], []⟩
def d_fewest_ticks_ : He.DefD := ⟨("fewest_ticks", none), "fewest_ticks", "fewest_ticks", defArgs s_fewest_ticks, defBody s_fewest_ticks, defScope s_fewest_ticks, [], []⟩
def d_lets_work_ : He.DefD := ⟨("lets_work", none), "lets_work", "lets_work", defArgs s_lets_work, defBody s_lets_work, defScope s_lets_work, [], []⟩
def d_law_feed_ : He.DefD := ⟨("_law_feed", none), "_law_feed", "_law_feed", defArgs s_law_feed, defBody s_law_feed, defScope s_law_feed, [], []⟩
def d_law_draw_ : He.DefD := ⟨("_law_draw", none), "_law_draw", "_law_draw", defArgs s_law_draw, defBody s_law_draw, defScope s_law_draw, [], []⟩
def d_law_subs_ : He.DefD := ⟨("_law_subs", none), "_law_subs", "_law_subs", defArgs s_law_subs, defBody s_law_subs, defScope s_law_subs, [], []⟩
def d_law_fewest_ : He.DefD := ⟨("_law_fewest", none), "_law_fewest", "_law_fewest", defArgs s_law_fewest, defBody s_law_fewest, defScope s_law_fewest, [], []⟩
def d_law_bounds_ : He.DefD := ⟨("_law_bounds", none), "_law_bounds", "_law_bounds", defArgs s_law_bounds, defBody s_law_bounds, defScope s_law_bounds, [], []⟩
def d_law_free_work_ : He.DefD := ⟨("_law_free_work", none), "_law_free_work", "_law_free_work", defArgs s_law_free_work, defBody s_law_free_work, defScope s_law_free_work, [], []⟩
def d_law_work_ : He.DefD := ⟨("_law_work", none), "_law_work", "_law_work", defArgs s_law_work, defBody s_law_work, defScope s_law_work, [], []⟩
def d_law_second_ : He.DefD := ⟨("_law_second", none), "_law_second", "_law_second", defArgs s_law_second, defBody s_law_second, defScope s_law_second, [], []⟩
def d_law_parts_right_ : He.DefD := ⟨("_law_parts_right", none), "_law_parts_right", "_law_parts_right", defArgs s_law_parts_right, defBody s_law_parts_right, defScope s_law_parts_right, [], []⟩
def d_law_loops_right_ : He.DefD := ⟨("_law_loops_right", none), "_law_loops_right", "_law_loops_right", defArgs s_law_loops_right, defBody s_law_loops_right, defScope s_law_loops_right, [], []⟩
def d_law_apart_right_ : He.DefD := ⟨("_law_apart_right", none), "_law_apart_right", "_law_apart_right", defArgs s_law_apart_right, defBody s_law_apart_right, defScope s_law_apart_right, [], []⟩
def d_law_ : He.DefD := ⟨("law", none), "law", "law", defArgs s_law, defBody s_law, defScope s_law, [], []⟩
def fn : List He.DefD := [d_is_integer_, d_is_number_, d_is_amount_, d_work_word_, d_inner_works_, d_form_fault_, d_inner_pairs_, d_work_fault_, d_is_work_, d_require_usable_, d_all_pairs_, d_works_along_, d_put_inner_, d_put_along_, d_parts_of_, d_part_at_, d_with_part_, d_size_of_, d_depth_of_, d_loops_of_, d_counted_along_, d_bounds_of_, d_with_told_, d_told_first_, d_told_last_, d_with_bounds_, d_is_path_of_, d_told_at_, d_require_paper_, d_fewest_ticks_, d_lets_work_, d_law_feed_, d_law_draw_, d_law_subs_, d_law_fewest_, d_law_bounds_, d_law_free_work_, d_law_work_, d_law_second_, d_law_parts_right_, d_law_loops_right_, d_law_apart_right_, d_law_]
def fx : List Fx := ([.glo "is_integer", .glo "is_number", .glo "is_amount", .glo "work_word", .glo "inner_works", .glo "form_fault", .glo "inner_pairs", .glo "work_fault", .glo "is_work", .glo "require_usable", .glo "all_pairs", .glo "works_along", .glo "put_inner", .glo "put_along", .glo "parts_of", .glo "part_at", .glo "with_part", .glo "size_of", .glo "depth_of", .glo "loops_of", .glo "counted_along", .glo "bounds_of", .glo "with_told", .glo "told_first", .glo "told_last", .glo "with_bounds", .glo "is_path_of", .glo "told_at", .glo "require_paper", .glo "fewest_ticks"] : List Fx) ++ ([.glo "lets_work", .glo "_law_feed", .glo "_law_draw", .glo "_law_subs", .glo "_law_fewest", .glo "_law_bounds", .glo "_law_free_work", .glo "_law_work", .glo "_law_second", .glo "_law_parts_right", .glo "_law_loops_right", .glo "_law_apart_right", .glo "law", .free "all", .free "bool", .free "enumerate", .free "int", .free "isinstance", .free "len", .free "list", .free "max", .free "min", .free "range", .free "repr", .free "set", .free "sorted", .free "str", .free "sum", .free "tuple", .free "zip"] : List Fx) ++ ([.dat "COUNTED" (.tup [.str "some", .str "loop"]), .kb knoB] : List Fx)
abbrev Rw : PySem.W.OpenRow := PySem.W.OpenLaw.row PySem.Challenge.rw_honestbars_k12_whole_parts_and_bounds
def ts : List TabX := [("WORK_SIZES", [("tick", 2), ("some", 4), ("row", 2), ("loop", 5), ("either", 2), ("beside", 3)])]
abbrev hk : PySem.W.Hook := hookXT 4 fx fn ts
def ob (s : PySem.W.SharedT) : He.AlT := obsXTG 4 fx fn ts (HandSHeadRun.getT s)
theorem ob_eq (s : PySem.W.SharedT) : ob s = hk.obs s.abs := obsXTG_eq (HandSHeadRun.getT_eq s)
abbrev loose : List Str := (["COUNTED", "WORK_SIZES", "is_integer", "is_number", "is_amount", "work_word", "inner_works", "form_fault", "inner_pairs", "work_fault", "is_work", "require_usable", "all_pairs", "works_along", "put_inner", "put_along", "parts_of", "part_at", "with_part", "size_of", "depth_of", "loops_of", "counted_along", "bounds_of", "with_told", "told_first", "told_last", "with_bounds", "is_path_of", "told_at"] : List Str) ++ (["require_paper", "fewest_ticks", "lets_work", "_law_feed", "_law_draw", "_law_subs", "_law_fewest", "_law_bounds", "_law_free_work", "_law_work", "_law_second", "_law_parts_right", "_law_loops_right", "_law_apart_right", "BarError", "WorkError", "NotUsable", "PaperError", "InvalidPaper"] : List Str)
theorem run : ∀ w : World, HandSHeadRun.RunEq Rw (PySem.W.view Rw.prog [54]) hk ob 8000 loose w :=
  PySem.W.byRow2 "special-get-raises" (P := fun w => HandSHeadRun.RunEq Rw (PySem.W.view Rw.prog [54]) hk ob 8000 loose w) (fun w => by intro os; kernel_rfl) (fun w => by intro os; kernel_rfl)
open PySem PySem.W PySem.Calls PyProof.Rows in
theorem head_of {sp : DSp} (hsp : ∀ ns : List Int, ns.length ≤ 63 → sp [.scr ns] (fun _ => none) (fun d _ => d = .bl true) noX)
    (F : ∀ (w : World) (mg : Str → Option Value) (fa : Addr) (h : Heap) (K : PySem.W.Frag), K.In h → SaysXT fx fn ts w K → h.Ns mainGlobals mg → mg ("law" : Str) = some (.ref fa) →
      ∃ fd : FuncData, (∀ (s : Shared) (v : Value), BindsTo s fd ⟨[v], []⟩ [("_law_script", v)]) ∧ ∀ base : Heap, K.In base → base.Ns mainGlobals mg → DFn (PySem.Challenge.rw_honestbars_k12_whole_parts_and_bounds).prog w K mg base 43 fa fd ["_law_script"] sp) : PySem.Challenge.rw_honestbars_k12_whole_parts_and_bounds.Holds := by
  w_on; o_law
  refine HandSHeadRun.head_any (r := OpenLaw.row PySem.Challenge.rw_honestbars_k12_whole_parts_and_bounds) (q := view (OpenLaw.row PySem.Challenge.rw_honestbars_k12_whole_parts_and_bounds).prog [54]) (H := K12.hk) (ob := K12.ob) (M := 8000) (loose := K12.loose) (d := HandSHeadRun.topDef (OpenLaw.row PySem.Challenge.rw_honestbars_k12_whole_parts_and_bounds).prog 54) (kwd := []) K12.ob_eq
    (by kernel_rfl) (fun s => by kernel_rfl) K12.run (by kernel_rfl) (by kernel_rfl) (by kernel_rfl) (by rfl) (by first | assumption | decide +kernel) (by decide +kernel) ⟨rfl, rfl, rfl, rfl, rfl, by decide +kernel⟩ ?hw ?hc
  case hw => w_witness2
  case hc =>
    refine Dl.d_walk (l := PySem.Challenge.rw_honestbars_k12_whole_parts_and_bounds) (n := 63) (k := 43) (x := "_law_script") rfl (by decide) (by kernel_rfl) ⟨rfl, by decide, by decide⟩ rfl ?F
    intro w mg fa h Y G hmg0
    obtain ⟨K, KX, c⟩ := Y
    have hmg : mg ("law" : PySem.Str) = some (.ref fa) := by
      have e : (HandSHeadRun.topDef (OpenLaw.row PySem.Challenge.rw_honestbars_k12_whole_parts_and_bounds).prog 54).name = ("law" : PySem.Str) := by kernel_rfl
      rw [← e]
      exact hmg0
    obtain ⟨fd, hb, hF⟩ := F w mg fa h K KX c G hmg
    exact ⟨K, fd, sp, KX, hb, hsp, hF⟩
end K12

namespace Dl
open PySem L2

abbrev DZ := DX → DSt → GH → Prop
abbrev XTE := DZ → DTE
abbrev XTA := DZ → DTA
abbrev XTT := DZ → DTT
abbrev XTS := DZ → DTS
def ZOk (K : PySem.W.Frag) (W : WX) (G : GH) (H : Hp) (Z : DZ) : Prop := ∀ x c od σ' H' ρ' G', Ext G H G' H' → DRel K σ' H' ρ' G' → ExcRep K G' H' x c od → Z x ρ' G' → W c od σ' H'
def upX (K : PySem.W.Frag) (W : WX) (t : XTE) : TE := fun σ H Qv => ∃ ρ G Q Z, DRel K σ H ρ G ∧ t Z ρ G Q ∧ (∀ v d H' G', Ext G H G' H' → DRel K σ H' ρ G' → RepV K G' H' d v → Q d G' → Qv v H') ∧ ZOk K W G H Z
abbrev XE1 (X : Cx) (W : WX) (e : Expr) (t : XTE) : Prop := PE X e (upX X.K W t)
section
variable {X : Cx} {W : WX}
@[simp] def xPe (t : DTE) : XTE := fun _ => t
@[simp] def xPa (t : DTA) : XTA := fun _ => t
@[simp] def xPt (t : DTT) : XTT := fun _ => t
@[simp] def xPs (t : DTS) : XTS := fun _ => t
@[simp] def xCons (ta : XTE) (tr : XTA) : XTA := fun Z ρ G Q => ta Z ρ G fun x G1 => tr Z ρ G1 fun xs G2 => Q (x :: xs) G2
@[simp] def xOp (r : DR2) (ta tb : XTE) : XTE := fun Z ρ G Q => ta Z ρ G fun x G1 => tb Z ρ G1 fun y G2 => r x y G2 Q
@[simp] def xTup (t : XTA) : XTE := fun Z ρ G Q => t Z ρ G fun xs G1 => xs.length ≤ sizeLine ∧ Q (.tup xs) G1
@[simp] def xSeq (t u : XTS) : XTS := fun Z E ρ G => t Z { E with nx := u Z E } ρ G
@[simp] def xDrop (te : XTE) : XTS := fun Z E ρ G => te Z ρ G fun _ G1 => E.nx ρ G1
@[simp] def xRet (te : XTE) : XTS := fun Z E ρ G => te Z ρ G E.rt
@[simp] def xIfS (c : XTT) (t u : XTS) : XTS := fun Z E ρ G => c Z ρ G fun b G1 => if b = true then t Z E ρ G1 else u Z E ρ G1
@[simp] def xAsg (te : XTE) (g : DTG) : XTS := fun Z E ρ G => te Z ρ G fun x G1 => g x ρ G1 E.nx
end

abbrev XFn (P : Program) (w : World) (K : PySem.W.Frag) (mg : Str → Option Value) (base : Heap) (k : Nat) (f : Addr) (fd : FuncData) (ps : List Str) (sp : DSp) : Prop := GFn P w K mg base (L2.CX P w) k f fd ps (toSp K sp)
section
variable {X : Cx} {W : WX} {CX : CXT} {k : Nat} {f : Addr} {fd : FuncData} {ps : List Str} {x : Str} {p pos : Pos} {e : Expr} {es : List Expr} {E : St → XK}
end
@[simp] def xCall (sp : DSp) (ta : XTA) : XTE := fun Z ρ G Q => ta Z ρ G fun ds G1 => sp ds G1 Q fun x G2 => Z x ρ G2
structure XCallee (P : Program) (w : World) (K : PySem.W.Frag) (mg : Str → Option Value) (base : Heap) (k : Nat) (x : Str) (ps : List Str) (sp : DSp) : Prop where
  ex : ∃ f fd, XFn P w K mg base k f fd ps sp ∧ mg x = some (.ref f) ∧ PySem.W.keepIn K (.ref f) = true ∧ Binds K fd ps [] ∧ KwB K fd ps ps (fun l => l)
section
variable {X : Cx} {W : WX} {k : Nat} {f : Addr} {fd : FuncData} {ps : List Str} {sp : DSp} {x : Str} {p pos : Pos} {e : Expr} {es : List Expr} {ta : XTA}
end

end Dl

namespace Dl
open PySem L2 PyProof.Rows

abbrev veInit : String := "ValueError.__init__"
structure ExcS (K : PySem.W.Frag) (file : Str) (C f c cc D : Addr) : Prop where
  ox : OexC K C
  ini : PySem.W.findIn K (.ref C) "__init__" = some (some (.ref f))
  fnT : PySem.W.typeIn K (.ref f) = some (.type "function")
  kD : ∃ cd, PySem.W.clsIn K D = some cd
  cell : ∃ a b sl, K.lookup cc = some ⟨a, b, .cell (some (.ref D)), sl⟩
  code : ∃ a b vs sl t fl, K.lookup c = some ⟨a, b, .fields vs, sl⟩ ∧ vs[2]? = some (.str fl t) ∧ ((file : Str) == fl) = true
  sub : PySem.W.mroIn K C (.ref D) = some true
  next : PySem.W.ks_superIn K C D "__init__" = some (some (.builtin veInit))
  isV : PySem.W.subIn K (.ref C) (.type "ValueError") = some true
  noSuper : PySem.W.nsIn K mainGlobals "super" = some none
  noOpq : PySem.W.nsIn K cStatics "thirdparty.any" = some none

section
variable {prog : Program} {w : World} {A : Around} {E : Value → Shared → Prop}
end
section
variable {X : Cx} {pins : List (Addr × Obj)} {σ : L2.St} {H : Hp} {s : Shared} {C f c cc D a : Addr} {A : Around} {body : List Stmt} {E : Value → Shared → Prop}
end

def spI (C : Addr) (fl : List Str) : Sp := fun vs H Q _ => ∃ (a : Addr) (ws : List V), vs = .ref a :: ws ∧ ws.length = fl.length ∧ H a = some (exo a C none) ∧
  ∀ (dx : Addr) (H' : Hp), H dx = none → dx ≠ a → H' a = some (exo a C (some dx)) → H' dx = some (exd dx (fl.zip ws).reverse) → (∀ b, b ≠ a → b ≠ dx → H' b = H b) → Q .non H'
section
open LamX NdefX
variable {P : Program} {w : World} {K : PySem.W.Frag} {mg : Str → Option Value} {base : Heap} {C f c cc D : Addr} {qual : Str} {params : Arguments} {scope : Scope} {xs fl : List Str} {rest : List Stmt} {dV kV doc pm ct oc : Value} {an od : Option Addr} {osl : Array (Option Value)}
end
end Dl

namespace Dl
open PySem L2 PyProof.Rows LamX NdefX
section
variable {P : Program} {w : World} {K : PySem.W.Frag} {mg : Str → Option Value} {base : Heap} {C f c cc D : Addr} {qual x1 x2 f1 f2 : Str} {params : Arguments} {scope : Scope} {dV kV doc pm ct oc : Value} {an od : Option Addr} {osl : Array (Option Value)}
  {p0 p1 p2 p3 p4 q1 q2 r1 r2 r3 r4 r5 r6 r7 r8 : Pos} {ar : Arg}
end

structure XClass (P : Program) (w : World) (K : PySem.W.Frag) (mg : Str → Option Value) (x : Str) (fl : List Str) : Prop where
  ox : OexC K (He.ga K x)
  few : fl.length ≤ 100
  at_ : mg x = some (.ref (He.ga K x))
  made : ∀ base : Heap, ∃ f fd ps, PySem.W.findIn K (.ref (He.ga K x)) "__init__" = some (some (.ref f)) ∧ PySem.W.typeIn K (.ref f) = some (.type "function") ∧ FnOk P w K mg base CX0 1 f fd ps (spI (He.ga K x) fl) ∧ Binds K fd ps []
@[simp] def xRaise (x : Str) (fl : List Str) (ta : XTA) : XTS := fun Z _ ρ G => ta Z ρ G fun ds G1 => ds.length = fl.length ∧ Z ⟨x, (fl.zip ds).reverse⟩ ρ G1
section
variable {X : Cx} {W : WX} {x : Str} {fl : List Str} {e : Expr} {es : List Expr} {ta : XTA} {p pos pos' : Pos}
end
end Dl

namespace Dl
open PySem L2 PyProof.Rows LamX

def lamP (q : Str) (params : Arguments) (body : Expr) (scope : Scope) (cl : List (Str × Addr)) : Addr → Addr → Heap → Prop := fun a c h =>
  ∃ (pm ctv : Value), h.get? a = some (PySem.W.kla_obj "<lambda>" q params body scope cl pm c ctv)
section
variable {X : Cx} {pins : List (Addr × Obj)} {σ : L2.St} {H : Hp} {s : Shared}
end
section
variable {X : Cx}
end
end Dl

namespace Dl
open PySem L2 PyProof.Rows LamX

structure Act where
  q : Str
  φ : Addr → Addr → Heap → Prop
  n0 : Addr → Prop
  H0 : Hp
  tl : DXK → GH → DK → Prop
abbrev Act.d (α : Act) : D := .fn α.q α.φ α.n0 α.H0
@[simp] def xAct (i : Nat) (α : Act) : XTE := fun Z ρ G Q => sl ρ i = some α.d ∧ α.tl (fun x G' => Z x ρ G') G Q
section
variable {X : Cx} {pins : List (Addr × Obj)} {σ : L2.St} {H : Hp} {s : Shared} {ρX : DSt} {GX : GH}
end

structure Hearer (P : Program) (w : World) (K : PySem.W.Frag) (mg : Str → Option Value) (base : Heap) (k : Nat) (x : Str) (rH : Act → DTS) (n : Nat) : Prop where
  ex : ∃ (g : Addr) (pg : Arguments) (bg : List Stmt) (sg : Scope) (Ng : List Str) (a : Str) (dV kV doc pm cdv ct oc : Value) (an od : Option Addr) (osl : Array (Option Value)),
    mg x = some (.ref g) ∧ PySem.W.keepIn K (.ref g) = true ∧ K.lookup g = some ⟨oc, od, .func (PySem.W.fnOf x x pg bg sg dV kV doc pm an cdv ct), osl⟩ ∧ PySem.W.codeIn K cdv x = true ∧ L2.Binds K (PySem.W.fnOf x x pg bg sg dV kV doc pm an cdv ct) [a] [] ∧
    FnScope Ng [a] sg ∧ Ng.length = n ∧ Ng[0]? = some a ∧ Vis sg a ∧ (a == ("__debug__" : Str)) = false ∧ (a == ("__classdict__" : Str)) = false ∧
    ∀ (A : Around) (out : List Env) (st : Shared) (H : Hp) (α : Act), Room (k + 1) (A.deeper (envOfC x sg st.heap.objs.size g cdv)) → (A.deeper (envOfC x sg st.heap.objs.size g cdv)).guards = some [] →
      (∀ (W : WX) (pn : List (Addr × Obj)) (xe : Value → Shared → Prop) (p1 p2 : Pos), Takes ((cxOf CX0 P w K mg base Ng x sg g cdv A out st H E0).tr pn xe) W →
        XE1 ((cxOf CX0 P w K mg base Ng x sg g cdv A out st H E0).tr pn xe) W (.Call (.Name a p1) [] [] p2) (xAct 0 α)) →
      DSs (cxOf CX0 P w K mg base Ng x sg g cdv A out st H E0).nox bg (rH α)
structure LamI where
  q : Str
  φ : Addr → Addr → Heap → Prop
  t : XTE
def LamOf (X : Cx) (k : Nat) (l : LamI) : Prop := ∃ (params : Arguments) (body : Expr) (scope : Scope),
  l.q = X.env.qual ++ "<lambda>" ∧ l.φ = lamP (X.env.qual ++ "<lambda>") params body scope (cloFrom X.env.cells scope.names []) ∧ LamS X.env.scope scope ∧
  (∀ (cl : List (Str × Addr)) (pm cv ctv : Value), bindArgs (PySem.W.kla_fn "<lambda>" (X.env.qual ++ "<lambda>") params body scope cl pm cv ctv) ⟨[], []⟩ = pure []) ∧
  ∀ (A : Around) (outer : List Env) (s : Shared) (H : Hp) (E : XK) (f c' : Addr), Room k (A.deeper (lamEnv X scope s.heap.objs.size f c')) → (A.deeper (lamEnv X scope s.heap.objs.size f c')).guards = some [] →
    Takes (lamCx X A outer s H E scope f c') (fun c d _ H' => E c d H') → XE1 (lamCx X A outer s H E scope f c') (fun c d _ H' => E c d H') body l.t
section
variable {X : Cx} {k n : Nat} {x : Str} {rH : Act → DTS} {Ls : List LamI} {e : Expr} {te : DTE} {p pos : Pos}
end
end Dl

namespace Dl
open PySem L2 PyProof.Rows

abbrev CTab := List (Str × List Str × List Str)
def CTab.names (T : CTab) : List Str := T.map (·.1)
structure ExT1 (K : PySem.W.Frag) (T : CTab) (c : Str) (as fs : List Str) : Prop where
  cl : (PySem.W.clsIn K (He.ga K c)).isSome = true
  xf : XfC K (He.ga K c)
  ha : PySem.W.findIn K (.ref (He.ga K c)) "__class__" = some (some (.builtin "object.__class__"))
  hn : PySem.W.specialIn K (.builtin "object.__class__") "__get__" = some (some (.builtin "getset_descriptor.__get__"))
  ht : PySem.W.takesIn K (.builtin "object.__class__") = some true
  hm : PySem.W.mroIn K (He.ga K c) (.type "object") = some true
  ve : PySem.W.kitOne K (.ref (He.ga K c)) (.type "ValueError") = some true
  no : ∀ f ∈ fs, PySem.W.findIn K (.ref (He.ga K c)) f = some none
  sub : ∀ t ∈ T.names, PySem.W.kitOne K (.ref (He.ga K c)) (.ref (He.ga K t)) = some (as.contains t) ∧ PySem.W.exmOne K (.ref (He.ga K c)) (.ref (He.ga K t)) = some (as.contains t)
def dIsX (CT : CTab) (a : Addr) (c : Str) (d : Addr) (te : DTE) (T : Str) : DTE := fun ρ G Q => te ρ G fun v G1 => (∃ ns vs, v = .exh a c d ns vs) ∧ ∃ as fs, (c, as, fs) ∈ CT ∧ T ∈ CT.names ∧ Q (.bl (as.contains T)) G1
def dExf (CT : CTab) (a : Addr) (c : Str) (d : Addr) (te : DTE) (f : Str) : DTE := fun ρ G Q => te ρ G fun v G1 => ∃ ns vs y, v = .exh a c d ns vs ∧ (∃ as fs, (c, as, fs) ∈ CT ∧ f ∈ fs) ∧ (ns.zip vs).lookup f = some y ∧ Q y G1
section
variable {X : Cx} {CT : CTab} {a d : Addr} {c T f : Str} {oe : Obj} {pn : List (Addr × Obj)} {e : Expr} {te : DTE} {p pt pos : Pos}
end

def dTry (CT : CTab) (T : Str) (i : Nat) (tb : XTS) (ts : Addr → Str → Addr → DTS) : DTS := fun E ρ G => tb (fun x ρ' G' => (∃ as fs, (x.cls, as, fs) ∈ CT ∧ as.contains T = true) ∧
  ∀ a d, ts a x.cls d { nx := fun ρ2 G2 => E.nx (ρ2.set i none) G2, rt := E.rt, bk := fun ρ2 G2 => E.bk (ρ2.set i none) G2, ct := fun ρ2 G2 => E.ct (ρ2.set i none) G2 } (ρ'.set i (some (.exh a x.cls d (x.fs.map (·.1)) (x.fs.map (·.2))))) G') E ρ G
section
variable {X : Cx} {CT : CTab} {T n : Str} {i : Nat} {body suite : List Stmt} {b₀ : Stmt} {np pos pos' : Pos} {tb : XTS} {ts : Addr → Str → Addr → DTS}
end
end Dl

namespace Dl
open PySem L2 PyProof.Rows LamX

structure XCalleeG (P : Program) (w : World) (K : PySem.W.Frag) (mg : Str → Option Value) (base : Heap) (k : Nat) (x : Str) (n : Nat) (ks : List Str) (src : List (Nat × Nat)) (dv : List D) (sp : DSp) : Prop where
  ex : ∃ f fd ps, XFn P w K mg base k f fd ps sp ∧ mg x = some (.ref f) ∧ PySem.W.keepIn K (.ref f) = true ∧ ∃ (its : List Value) (dvs : List V), Vals dvs its ∧ (∀ G H, RepL K G H dv dvs) ∧
    ∀ (s : Shared) (us ws : List Value), K.In s.heap → us.length = n → ws.length = ks.length → BindsTo s fd ⟨us, ks.zip ws⟩ (ps.zip (pick src us its ws))
section
variable {X : Cx} {W : WX} {k n : Nat} {x : Str} {ks : List Str} {src : List (Nat × Nat)} {dv : List D} {sp : DSp} {p pos : Pos} {e : Expr} {es : List Expr} {ta tk : DTA} {kws : List Keyword}
end
section
variable {P : Program} {w : World} {K : PySem.W.Frag} {mg : Str → Option Value} {base : Heap} {k n : Nat} {x qual : Str} {params : Arguments} {body : List Stmt} {scope : Scope} {f : Addr} {fd : FuncData} {ps ks : List Str} {src : List (Nat × Nat)} {sp sp' : DSp}
theorem XFn.calm (F : XFn P w K mg base k f fd ps sp) (h : ∀ ds G Q E, sp' ds G Q E → sp ds G Q noX) : DFn P w K mg base k f fd ps sp' := by
  refine ⟨fun xs H Q E hs => ?_, fun A out st H ar us xs Q E hr hg he hb hv hs => ?_⟩
  · obtain ⟨ds, G, q, e, rl, g, h1, _⟩ := hs
    exact F.arity xs H (fun _ _ => True) (fun _ _ _ => True) ⟨ds, G, q, noX, rl, g, h _ _ _ _ h1, fun _ _ _ _ _ _ _ _ => trivial, fun _ _ _ _ _ _ _ _ _ => trivial⟩
  · obtain ⟨ds, G, q, e, rl, g, h1, kq, ke⟩ := hs
    refine codeAny_mono (F.go A out st H ar us xs Q (fun _ _ _ => False) hr hg he hb hv ⟨ds, G, q, noX, rl, g, h _ _ _ _ h1, kq, fun _ _ _ _ _ _ _ _ z => z.elim⟩) fun r s' hq => ?_
    cases r with
    | error er =>
      obtain ⟨_, _, _, _, _, _, _, _, _, _, _, _, z⟩ := (show L2.CX P w out H st (fun _ _ _ => False) er s' from hq)
      exact z.elim
    | ok fl => cases fl <;> exact hq
theorem XCallee.calm (C : XCallee P w K mg base k x ps sp) (h : ∀ ds G Q E, sp' ds G Q E → sp ds G Q noX) : Callee P w K mg base k x ps sp' := by
  obtain ⟨f, fd, F, a⟩ := C.ex
  exact ⟨f, fd, XFn.calm F h, a⟩
theorem XCalleeG.calm {dv : List Dl.D} (C : XCalleeG P w K mg base k x n ks src dv sp) (h : ∀ ds G Q E, sp' ds G Q E → sp ds G Q noX) : CalleeG P w K mg base k x n ks src dv sp' := by
  obtain ⟨f, fd, ps, F, a⟩ := C.ex
  exact ⟨f, fd, ps, XFn.calm F h, a⟩
end
section
variable {X : Cx} {W : WX} {k : Nat} {x : Str} {ps : List Str} {sp : DSp} {p pos : Pos} {ta : DTA} {kws : List Keyword}
end

section
variable {P : Program} {w : World} {K : PySem.W.Frag} {mg : Str → Option Value} {base : Heap} {x qual : Str} {params : Arguments} {body : List Stmt} {scope : Scope} {dvs : List V} {kws : List (Str × V)} {f c : Addr} {fd : FuncData} {N ps : List Str} {k : Nat} {sp : DSp}
end
section
variable {X : Cx} {k n : Nat} {x q : Str} {rH : Act → DTS} {p lpos pos : Pos} {c T : Addr} {params : Arguments} {body : Expr} {scope : Scope} {t : XTE}
end
section
variable {P : Program} {w : World} {K : PySem.W.Frag} {mg : Str → Option Value} {base : Heap} {k : Nat} {x a : Str} {pg : Arguments} {bg : List Stmt} {sg : Scope} {g : Addr} {fd : FuncData} {Ng : List Str} {rH : Act → DTS}
end
section
variable {X : Cx} {W : WX}
end
end Dl

namespace Dl
open PySem PySem.Spec PyProof.Rows L2 LamX

structure XD where
  x : Str
  qual : Str
  params : Arguments
  body : List Stmt
  scope : Scope
  fl : List Str
abbrev FnE : Type := Option (Str × Str × Arguments × FuncBody × Scope × Addr × List Str × Addr)
def iniA (K : PySem.W.Frag) (x : Str) : Addr := He.ma K (He.ga K x) "__init__"
def fnE (K : PySem.W.Frag) (x : Str) : FnE := match K.lookup (iniA K x) with
  | some ⟨_, _, .func fd, _⟩ => some (fd.name, fd.qualname, fd.params, fd.body, fd.scope, fd.globals, fd.closure.map (·.1), fd.builtins)
  | _ => none
def XD.val (d : XD) : FnE := some ("__init__", d.qual, d.params, .stmts d.body, d.scope, mainGlobals, [("__class__" : Str)], builtinsNs)
structure XinOk (K : PySem.W.Frag) (file : Str) (d : XD) (f c cc D : Addr) : Prop where
  s : ExcS K file (He.ga K d.x) f c cc D
  at_ : PySem.W.nsIn K mainGlobals d.x = some (some (.ref (He.ga K d.x)))
  no : ∀ g ∈ d.fl, PySem.W.findIn K (.ref (He.ga K d.x)) g = some none
  fn : ∃ (oc doc pm ct : Value) (an od : Option Addr) (osl : Array (Option Value)), K.lookup f = some ⟨oc, od, .func (PySem.W.fnX "__init__" d.qual d.params d.body d.scope [(("__class__" : Str), cc)] .none .none doc pm an (.ref c) ct), osl⟩
  code : PySem.W.codeIn K (.ref c) d.qual = true
section
open NdefX
variable {P : Program} {w : World} {K : PySem.W.Frag} {mg : Str → Option Value} {d : XD} {x1 x2 f1 f2 : Str} {p0 p1 p2 p3 p4 q1 q2 r1 r2 r3 r4 r5 r6 r7 r8 : Pos} {ar : Arg}
end

structure PDef where
  c : Str
  f : Str
  params : Arguments
  body : List Stmt
  scope : Scope
def atA (K : PySem.W.Frag) (c f : Str) : Addr := He.ma K (He.ga K c) f
def getA (K : PySem.W.Frag) (c f : Str) : Addr := match PySem.W.recIn K (atA K c f) "property" with
  | some (.ref g :: _) => g
  | _ => 0
def fnP (K : PySem.W.Frag) (c f : Str) : FnE := match K.lookup (getA K c f) with
  | some ⟨_, _, .func fd, _⟩ => some (fd.name, fd.qualname, fd.params, fd.body, fd.scope, fd.globals, fd.closure.map (·.1), fd.builtins)
  | _ => none
def PDef.qual (d : PDef) : Str := d.c ++ "." ++ d.f
def PDef.val (d : PDef) : FnE := some (d.f, d.qual, d.params, .stmts d.body, d.scope, mainGlobals, [], builtinsNs)
structure SaysE (fx : List Fx) (fn : List He.DefD) (tf : List He.Defn) (ex : PySem.W.Frag → Bool) (xs : List XD) (pd : List PDef) (h : Heap) (K : PySem.W.Frag) : Prop where
  x : SaysX fx fn K
  more : ex K = true
  ini : ∀ d ∈ xs, fnE K d.x = d.val
  get : ∀ d ∈ pd, fnP K d.c d.f = d.val
  hd : ∀ p ∈ tf, PySem.W.codeHdIn K (He.cT K p).1 (He.cT K p).2 = true
  out : ∀ p ∈ tf, K.lookup (He.cT K p).2 = none
  empty : ∀ p ∈ tf, h.get? (He.cT K p).2 = some { cls := .none, data := .fields #[] }
  nd : (tf.map fun p => (He.cT K p).2).Nodup
def tabG (T : List (Addr × Str)) : GH := fun b => (T.lookup b).map DO.tab
theorem look_cons (u : Addr) (v : Str) (r : List (Addr × Str)) (b : Addr) : ((u, v) :: r).lookup b = if b = u then some v else r.lookup b := by
  rw [List.lookup_cons]
  by_cases h : b = u
  · subst h; simp
  · have e : (b == u) = false := by simpa using h
    rw [e, if_neg h]
theorem look_nd {T : List (Addr × Str)} (nd : (T.map (·.1)).Nodup) : ∀ p ∈ T, T.lookup p.1 = some p.2 := by
  induction T with
  | nil => intro p hp; cases hp
  | cons q r ih =>
    intro p hp
    obtain ⟨u, v⟩ := q
    simp only [List.map_cons, List.nodup_cons] at nd
    rw [look_cons]
    rcases List.mem_cons.mp hp with rfl | hp
    · rw [if_pos rfl]
    · have ne : p.1 ≠ u := fun z => nd.1 (by rw [← z]; exact List.mem_map_of_mem hp)
      rw [if_neg ne]
      exact ih nd.2 p hp
theorem tabG_at {T : List (Addr × Str)} (nd : (T.map (·.1)).Nodup) {p : Addr × Str} (hp : p ∈ T) : tabG T p.1 = some (.tab p.2) := by
  unfold tabG
  rw [look_nd nd p hp]
  rfl
end Dl

namespace Dl
open PySem L2 PyProof.Rows LamX
section
variable {X : Cx} {pins : List (Addr × Obj)} {σ : L2.St} {H : Hp} {s : Shared}
end
section
variable {X : Cx} {pins : List (Addr × Obj)} {σ : L2.St} {ρX : DSt} {k n : Nat} {x : Str} {rH : Act → DTS} {Ls : List LamI} {e : Expr} {te : DTE} {p pos : Pos}
end
section
variable {X : Cx} {k n iy : Nat} {x y : Str} {rH : Act → DTS} {Ls : List LamI} {tc : DTE} {r : DR2} {wi : DTI}
end
section
variable {X : Cx}
theorem all_cons {k : Nat} {l : LamI} {Ls : List LamI} (h : LamOf X k l) (t : ∀ l ∈ Ls, LamOf X k l) : ∀ l' ∈ l :: Ls, LamOf X k l' := fun l' hl => (List.mem_cons.mp hl).elim (fun e => e ▸ h) (t l')
end
end Dl

namespace Dl
open PySem L2 PyProof.Rows
section
variable {X : Cx}
end
section
variable {K : PySem.W.Frag} {G : GH} {H : Hp}
end
section
variable {X : Cx}
end
end Dl


namespace Dl
open PySem L2
section
variable {t u : XTS} {te : XTE} {ta : XTA} {tc : XTT} {tr : XTA} {E : DEnds} {Z : DZ} {ρ : DSt} {G : GH} {Q : DK} {Ql : List D → GH → Prop}
theorem iXPe {t : DTE} (h : t ρ G Q) : xPe t Z ρ G Q := h
theorem iXPa {t : DTA} (h : t ρ G Ql) : xPa t Z ρ G Ql := h
theorem iXPt {t : DTT} {Qb : Bool → GH → Prop} (h : t ρ G Qb) : xPt t Z ρ G Qb := h
theorem iXPs {t : DTS} (h : t E ρ G) : xPs t Z E ρ G := h
theorem iXSeq (h : t Z { E with nx := u Z E } ρ G) : xSeq t u Z E ρ G := h
theorem iXDrop (h : te Z ρ G fun _ G1 => E.nx ρ G1) : xDrop te Z E ρ G := h
theorem iXRet (h : te Z ρ G E.rt) : xRet te Z E ρ G := h
theorem iXIfS (h : tc Z ρ G fun b G1 => if b = true then t Z E ρ G1 else u Z E ρ G1) : xIfS tc t u Z E ρ G := h
theorem iXAsg {g : DTG} (h : te Z ρ G fun x G1 => g x ρ G1 E.nx) : xAsg te g Z E ρ G := h
theorem iXCons (h : te Z ρ G fun x G1 => tr Z ρ G1 fun xs G2 => Ql (x :: xs) G2) : xCons te tr Z ρ G Ql := h
theorem iXTup (h : ta Z ρ G fun xs G1 => xs.length ≤ sizeLine ∧ Q (.tup xs) G1) : xTup ta Z ρ G Q := h
theorem iXOp {r : DR2} {tb : XTE} (h : te Z ρ G fun x G1 => tb Z ρ G1 fun y G2 => r x y G2 Q) : xOp r te tb Z ρ G Q := h
theorem iXCall {sp : DSp} (h : ta Z ρ G fun ds G1 => sp ds G1 Q fun x G2 => Z x ρ G2) : xCall sp ta Z ρ G Q := h
theorem iXRaise {x : Str} {fl : List Str} (h : ta Z ρ G fun ds G1 => ds.length = fl.length ∧ Z ⟨x, (fl.zip ds).reverse⟩ ρ G1) : xRaise x fl ta Z E ρ G := h
theorem iDSeqTry {CT : CTab} {T : Str} {i : Nat} {tb : XTS} {ts : Addr → Str → Addr → DTS} (h : tb (fun x ρ' G' => (∃ as fs, (x.cls, as, fs) ∈ CT ∧ as.contains T = true) ∧
  ∀ a d, ts a x.cls d { nx := fun ρ2 G2 => E.nx (ρ2.set i none) G2, rt := E.rt, bk := fun ρ2 G2 => E.bk (ρ2.set i none) G2, ct := fun ρ2 G2 => E.ct (ρ2.set i none) G2 } (ρ'.set i (some (.exh a x.cls d (x.fs.map (·.1)) (x.fs.map (·.2))))) G') E ρ G) : dTry CT T i tb ts E ρ G := h
theorem iIsX {CT : CTab} {a d : Addr} {c T : Str} {te : DTE} (h : te ρ G fun v G1 => (∃ ns vs, v = .exh a c d ns vs) ∧ ∃ as fs, (c, as, fs) ∈ CT ∧ T ∈ CT.names ∧ Q (.bl (as.contains T)) G1) : dIsX CT a c d te T ρ G Q := h
theorem iExf {CT : CTab} {a d : Addr} {c f : Str} {te : DTE} (h : te ρ G fun v G1 => ∃ ns vs y, v = .exh a c d ns vs ∧ (∃ as fs, (c, as, fs) ∈ CT ∧ f ∈ fs) ∧ (ns.zip vs).lookup f = some y ∧ Q y G1) : dExf CT a c d te f ρ G Q := h
theorem iXAct {i : Nat} {α : Act} (e : sl ρ i = some α.d) (h : α.tl (fun x G' => Z x ρ G') G Q) : xAct i α Z ρ G Q := ⟨e, h⟩
end
theorem slL {ds : List D} {lo hi : Option Int} {G : GH} {Q : DK} (h : ∀ p, G p = none → Q (.ref p) (updG G p (.lst (cutD ds lo hi)))) : rSl (.lst ds) lo hi G Q := h
end Dl

namespace Dl
open PySem PySem.Spec PyProof.Rows L2 LamX
def tabsT (K : PySem.W.Frag) (tq : List (He.Defn × Str)) : List (Addr × Str) := tq.map fun p => ((He.cT K p.1).2, p.2)
def csT (K : PySem.W.Frag) (tq : List (He.Defn × Str)) : List (Addr × Addr) := tq.map fun p => He.cT K p.1
section
variable {fx : List Fx} {fn : List He.DefD} {tq : List (He.Defn × Str)} {ex : PySem.W.Frag → Bool} {xs : List XD} {pd : List PDef} {h : Heap} {K : PySem.W.Frag}
theorem SaysE.hd' (c : SaysE fx fn (tq.map (·.1)) ex xs pd h K) (X : K.In h) : ∀ p ∈ csT K tq, PySem.W.CodeHd h p.1 p.2 := fun p hp => by
  obtain ⟨q, hq, rfl⟩ := List.mem_map.mp hp
  exact PySem.W.codeHd_of_K X (c.hd _ (List.mem_map_of_mem hq))
theorem SaysE.at_ (c : SaysE fx fn (tq.map (·.1)) ex xs pd h K) (i : Nat) {p : He.Defn} {q : Str} (e : tq[i]? = some (p, q) := by rfl) : tabG (tabsT K tq) (He.cT K p).2 = some (.tab q) := by
  have nd : ((tabsT K tq).map (·.1)).Nodup := by
    have z := c.nd
    rw [List.map_map] at z
    unfold tabsT
    rw [List.map_map]
    exact z
  exact tabG_at nd (List.mem_map_of_mem (f := fun p : He.Defn × Str => ((He.cT K p.1).2, p.2)) (List.mem_of_getElem? e))
end
end Dl

namespace Dl
open PySem PySem.Spec PyProof.Rows L2
section
variable {K : PySem.W.Frag} {G : GH} {H : Hp}
theorem SltD.slt {a : Addr} {c : Str} {vs : List (Option D)} (h : SltD K G H a c vs) : ∃ dx ws, SlX.Slt H a (He.ga K c) dx ws ∧ RepO K G H vs ws := by
  obtain ⟨dx, ws, g, h1, h2, r⟩ := h
  exact ⟨dx, ws, .inr ⟨h1, h2⟩, r⟩
end
section
variable {X : Cx} {e o value : Expr} {c f : Str} {pos pos' : Pos} {te to tv : DTE} {p : Addr} {i : Nat}
end

structure PCallee (P : Program) (w : World) (K : PySem.W.Frag) (mg : Str → Option Value) (base : Heap) (k : Nat) (c f : Str) (sp : DSp) : Prop where
  ex : ∃ (p g : Addr) (fd : FuncData) (x : Str), DFn P w K mg base k g fd [x] sp ∧ SlX.SCls K (He.ga K c) ∧ PropOf K (He.ga K c) f p g ∧ Binds K fd [x] []
section
variable {X : Cx} {CX : CXT} {k : Nat} {C g p : Addr} {fd : FuncData} {ps : List Str} {x f m : Str} {pos apos : Pos} {e o : Expr} {es : List Expr} {E : XK} {ta : TE} {t : TA} {sp : Sp}
end
section
variable {X : Cx} {k : Nat} {c f x : Str} {pos : Pos} {e : Expr} {te : DTE} {sp : DSp}
end

structure MCalleeX (P : Program) (w : World) (K : PySem.W.Frag) (mg : Str → Option Value) (base : Heap) (k : Nat) (c m : Str) (n : Nat) (ks : List Str) (src : List (Nat × Nat)) (dv : List D) (sp : DSp) : Prop where
  ex : ∃ f fd ps, XFn P w K mg base k f fd ps sp ∧ SlX.SCls K (He.ga K c) ∧ Meth K (He.ga K c) m f ∧ ∃ (its : List Value) (dvs : List V), Vals dvs its ∧ (∀ G H, RepL K G H dv dvs) ∧
    ∀ (s : Shared) (us ws : List Value), K.In s.heap → us.length = n → ws.length = ks.length → BindsTo s fd ⟨us, ks.zip ws⟩ (ps.zip (pick src us its ws))
section
variable {X : Cx} {W : WX} {k n : Nat} {c m : Str} {ks : List Str} {src : List (Nat × Nat)} {dv : List D} {sp : DSp} {pos apos : Pos} {e o : Expr} {es : List Expr} {to : DTE} {ta tk : DTA} {kws : List Keyword} {pl : Sem Bool}
end
section
variable {X : Cx}
end
end Dl

namespace Dl
open PySem PySem.Spec PyProof.Rows L2 StX
structure VFn (P : Program) (w : World) (K : PySem.W.Frag) (mg : Str → Option Value) (base : Heap) (k : Nat) (f : Addr) (n : Nat) (ks : List Str) (src : List (Nat × Nat)) (sp : DSp) : Prop where
  go : ∀ (A : Around) (out : List Env) (st : Shared) (H : Hp) (us ws : List Value) (xs zs : List V) (Q : VK) (E : XK), Room k A → A.guards = some [] → Env0 P w K mg base A out st H → us.length = n → ws.length = ks.length → Vals xs us → Vals zs ws →
    toSp K sp (pick src xs [] zs) H Q E → codeAny (model P w) A (.call (.ref f) ⟨us, ks.zip ws⟩) (CR (L2.CX P w) out P w H st Q E) st
structure SMaker (P : Program) (w : World) (K : PySem.W.Frag) (mg : Str → Option Value) (base : Heap) (k : Nat) (c : Str) (n : Nat) (ks : List Str) (src : List (Nat × Nat)) (sp : DSp) : Prop where
  ex : ∃ f, VFn P w K mg base k f (n + 1) ks src sp ∧ Mk K (He.ga K c) f ∧ mg c = some (.ref (He.ga K c))
section
variable {X : Cx} {W : WX} {k n : Nat} {c : Str} {ks : List Str} {src : List (Nat × Nat)} {sp : DSp} {p pos : Pos} {e : Expr} {es : List Expr} {ta tk : DTA} {kws : List Keyword} {f C : Addr}
end
end Dl

namespace Dl
open PySem PySem.Spec PyProof.Rows L2
section
variable {prog : Program} {w : World} {A : Around} {E : Value → Shared → Prop} {s : Shared} {K : PySem.W.Frag} {a C g : Addr} {ox od : Obj}
end
structure QCallee (P : Program) (w : World) (K : PySem.W.Frag) (mg : Str → Option Value) (base : Heap) (k : Nat) (c m : Str) (sp : DSp) : Prop where
  ex : ∃ f fd ps, DFn P w K mg base k f fd ps sp ∧ SlX.SCls K (He.ga K c) ∧ Meth K (He.ga K c) m f ∧ Binds K fd ps []
section
variable {X : Cx} {k : Nat} {c : Str} {sp : DSp}
end
end Dl

namespace Dl
open PySem PySem.Spec PyProof.Rows L2
end Dl

namespace Dl
open PySem PySem.Spec PyProof.Rows L2
section
variable {X : Cx} {e o value : Expr} {c f : Str} {pos pos' : Pos} {te to tv : DTE} {i : Nat}
end
end Dl
namespace Dl
open PySem PySem.Spec PyProof.Rows L2
section
variable {P : Program} {w : World} {K : PySem.W.Frag} {mg : Str → Option Value} {base : Heap} {k n : Nat} {c m qual : Str} {params : Arguments} {body : List Stmt} {scope : Scope} {fd : FuncData} {ps ks : List Str} {src : List (Nat × Nat)} {sp : DSp}
end
end Dl
namespace Dl
open PySem PySem.Spec PyProof.Rows L2
end Dl

namespace Dl
open PySem L2
section
variable {ρ : DSt} {G : GH} {Q : DK} {c : Str} {i n m : Nat} {te to : DTE} {ta tk : DTA} {sp : DSp} {src : List (Nat × Nat)} {dv : List D} {Z : DZ}
end
end Dl

namespace Dl
open PySem L2
end Dl

namespace Dl
open PySem L2
abbrev KT2 := List Key
section
variable {K : PySem.W.Frag} {G : GH} {H : Hp} {k : KT2}
end

section
variable {X : Cx}
end
end Dl

namespace Dl
open PySem L2 PyProof.Rows

section
variable {X : Cx}
end

section
variable {X : Cx}
end
section
variable {X : Cx}
end
section
variable {X : Cx}
end
end Dl

namespace Dl
open PySem L2 PyProof.Rows
abbrev RoomE := L2H.RoomH
structure EFn (P : Program) (w : World) (K : PySem.W.Frag) (mg : Str → Option Value) (base : Heap) (k : Nat) (f : Addr) (fd : FuncData) (x : Str) (rE : Addr → Str → Addr → DTS) (n : Nat) : Prop where
  go : ∀ (A : Around) (out : List Env) (st : Shared) (H : Hp) (ar : Args) (u : Value) (v : V) (a : Addr) (oe : Obj) (c : Str) (d : Addr) (ns : List Str) (vs : List D) (G : GH) (q : DK) (Q : VK),
    RoomE k A → A.guards = some [] → A.handled = some (.ref a) → Zc (.ref (He.ga K c)) (some d) oe → (∃ vs, oe.data = .fields vs) → L2H.PinOk out H st (a, oe) → Env0 P w K mg base A out st H → BindsTo st fd ar [(x, u)] → RelV v u →
    RepV K G H (.exh a c d ns vs) v → GOk K G H → rE a c d { nx := fun _ G' => q .non G', rt := q } (startD n [.exh a c d ns vs]) G → (∀ v d H' G', Ext G H G' H' → GOk K G' H' → RepV K G' H' d v → q d G' → Q v H') →
    codeAny (model P w) A (.call (.ref f) ar) (CR CX0 out P w H st Q E0) st
structure ECallee (P : Program) (w : World) (K : PySem.W.Frag) (mg : Str → Option Value) (base : Heap) (k : Nat) (x : Str) (rE : Addr → Str → Addr → DTS) (n : Nat) : Prop where
  ex : ∃ f fd p, EFn P w K mg base k f fd p rE n ∧ mg x = some (.ref f) ∧ PySem.W.keepIn K (.ref f) = true ∧ Binds K fd [p] []
end Dl

namespace Dl
open PySem L2
section
variable {E : DEnds} {ρ : DSt} {G : GH} {Q : DK} {te ta tb : DTE} {tl : DTA} {tc tu tv : DTT} {Qb : Bool → GH → Prop}
end
end Dl

namespace Dl
open PySem L2
section
variable {X : Cx}
end
end Dl

namespace Dl
open PySem L2
end Dl

namespace Dl
open PySem L2
section
variable {X : Cx} {W : WX}
end
end Dl


namespace Dl
open PySem L2 LamX
inductive OT | nil | node (m : Nat) (o : Obj) (l r : OT)
end Dl

namespace Dl
open PySem PySem.Spec PyProof.Rows L2 LamX
def dicsOf (ts : List TabX) (K : PySem.W.Frag) : List (Option (List (Option (Str × Int)))) := ts.map fun t => match dicI K (He.ga K t.1) t.2 with
  | true => He.dicW K (He.ga K t.1)
  | false => none
def dicsV (ts : List TabX) (w : World) : List (Option (List (Option (Str × Int)))) := ts.map fun t => some (He.keysIn w.params (t.2.map (·.1)))
structure SaysET (fx : List Fx) (fn : List He.DefD) (tf : List He.Defn) (ex : PySem.W.Frag → Bool) (xs : List XD) (pd : List PDef) (ts : List TabX) (w : World) (h : Heap) (K : PySem.W.Frag) : Prop extends SaysE fx fn tf ex xs pd h K where
  dics : dicsOf ts K = dicsV ts w
end Dl

namespace Dl
open PySem L2
section
variable {X : Cx}
end
end Dl

namespace Dl
open PySem L2 PySem.W PySem.SeqAt PyProof.Rows
def tupI (ks : List Int) : PyData := .tuple (ks.map .int)
theorem cmpbs_ints : ∀ a b : List Int, cmpbs (a.map .int) (b.map .int) = true
  | [], [] => by simp [cmpbs]
  | [], _ :: _ => by simp [cmpbs]
  | _ :: _, [] => by simp [cmpbs]
  | x :: a, y :: b => by simp [cmpbs, cmpb, cmpbs_ints a b]
theorem plainAll_ints : ∀ a : List Int, PyData.plainAll (a.map .int) = true
  | [] => by simp [PyData.plainAll]
  | x :: a => by simp [PyData.plainAll, PyData.plain, plainAll_ints a]
theorem depthAll_ints : ∀ a : List Int, PyData.depthAll (a.map .int) = 0
  | [] => by simp [PyData.depthAll]
  | x :: a => by simp [PyData.depthAll, PyData.depth, depthAll_ints a]
def lexI : List Int → List Int → Bool
  | [], [] => false
  | [], _ :: _ => true
  | _ :: _, [] => false
  | x :: xs, y :: ys => if x = y then lexI xs ys else decide (x < y)
theorem tlt_ints : ∀ a b : List Int, tlt (keyToksAll (a.map .int)) (keyToksAll (b.map .int)) = lexI a b
  | [], [] => by rw [lexI]; exact lex_irrefl _
  | [], y :: b => by rw [lexI]; exact (tlt_short (.int y) (b.map .int)).1
  | x :: a, [] => by rw [lexI]; exact (tlt_short (.int x) (a.map .int)).2
  | x :: a, y :: b => by
    have hc := cmpbs_ints (x :: a) (y :: b)
    rw [List.map_cons, List.map_cons] at hc ⊢
    obtain ⟨c1, c2⟩ := cmpbs_cons hc
    have e0 : PyData.eqv (.int x) (.int y) = (x == y) := by simp [PyData.eqv]
    rw [lexI]
    by_cases h : x = y
    · rw [if_pos h, tlt_yes c1 (by rw [e0]; simpa using h), tlt_ints a b]
    · rw [if_neg h, tlt_no c1 (by rw [e0]; simpa using h), dataLt_int]
def TI (h : Heap) (v : Value) (ks : List Int) : Prop := ∃ as, Reads h v (tupI ks) as
theorem TI.keep {h h' : Heap} {v : Value} {ks : List Int} (t : TI h v ks) (k : ∀ b o, h.get? b = some o → h'.get? b = some o) : TI h' v ks := by
  obtain ⟨as, r⟩ := t
  exact ⟨as, PyProof.Rows.Reads.keeps k r⟩
theorem TI.read {h : Heap} {v : Value} {ks : List Int} (t : TI h v ks) : readOf h v = tupI ks := by
  obtain ⟨as, r⟩ := t
  exact readOf_plain (by rw [tupI, PyData.plain]; exact plainAll_ints ks) r
theorem TI.ltv {h : Heap} {v u : Value} {a b : List Int} (t : TI h v a) (t2 : TI h u b) : Dl.ltv h v u = lexI a b := by
  unfold Dl.ltv
  rw [t.read, t2.read, tupI, tupI]
  simp only [keyToks]
  exact tlt_ints a b
theorem TI.isT {h : Heap} {v : Value} {ks : List Int} (t : TI h v ks) : ∃ a o xs n, v = .ref a ∧ h.get? a = some o ∧ o.cls = .type "tuple" ∧ o.data = .seq xs n ∧ xs.size = ks.length := by
  obtain ⟨as, r⟩ := t
  unfold tupI at r
  cases r with
  | @tuple l o xs n _ _ h1 h2 h3 h4 =>
    have := ReadsAll.length _ _ _ h4
    exact ⟨_, _, _, _, rfl, h1, h2, h3, by simpa using this⟩
def firstV (h : Heap) (v : Value) : Option Value := match v with
  | .ref a => (match h.get? a with
    | some ⟨_, _, .seq xs _, _⟩ => xs[0]?
    | _ => none)
  | _ => none
section
variable {M : Model} {A : Around} {E : Value → Shared → Prop} {s : Shared}
theorem firsts_o : ∀ (vs : List Value) {Q : List (Option Value) → Shared → Prop}, (∀ v ∈ vs, ∃ ks, TI s.heap v ks) → Q (vs.map (firstV s.heap)) s → wpAny M A (vs.mapM firstOfTuple') Q E s
  | [], _, _, h => by rw [List.mapM_nil]; exact wpAny_pure h
  | v :: vs, Q, t, h => by
    obtain ⟨ks, tv⟩ := t v (List.mem_cons_self ..)
    obtain ⟨a, o, xs, n, rfl, ho, hc, hd, _⟩ := tv.isT
    rw [List.mapM_cons]
    refine wpAny_bind ?_
    rw [kas_first_eq]
    refine wpAny_bind (Looks.here (show Looks M s.heap (typeOf (.ref a)) o.cls from (Looks.ld ho).andThen .now) ?_)
    rw [hc, if_neg (by first | decide | simp)]
    have hf : firstV s.heap (.ref a) = xs[0]? := by
      obtain ⟨c, d, dt, sl⟩ := o
      dsimp only at hd
      subst hd
      simp only [firstV, ho]
    refine wpAny_bind (listItems_at ho hd (wpAny_pure ?_))
    rw [List.map_cons, hf] at h
    exact wpAny_bind (firsts_o vs (Q := fun bs s' => wpAny M A (pure (xs[0]? :: bs)) Q E s') (fun u hu => t u (List.mem_cons_of_mem _ hu)) (wpAny_pure h))
theorem kind_o' {vs : List Value} {Q : SortKind → Shared → Prop} (h2 : 0 < vs.length) (t : ∀ v ∈ vs, ∃ ks, TI s.heap v ks) (hn : ((vs.map (firstV s.heap)).all fun x => x.isSome) = false)
    (hg : ((vs.map (firstV s.heap))[0]?.bind id).isSome = true → Q general' s) (ho : ((vs.map (firstV s.heap))[0]?.bind id).isSome = false → Q oneType' s) : wpAny M A (keyKind' vs.toArray) Q E s := by
  rw [kat_kind_eq, List.mapM_toArray, map_eq_pure_bind]
  refine wpAny_bind (wpAny_bind (firsts_o vs t (wpAny_pure ?_)))
  rw [if_neg (by rw [List.all_toArray, hn]; decide)]
  refine wpAny_ite ?_
  split
  · rename_i hc
    exact wpAny_pure (hg (by simpa using hc))
  · rename_i hc
    have ho := ho (by simpa using hc)
    rw [oneTypeOnly'_eq, List.mapM_toArray, map_eq_pure_bind]
    have hT : ∀ v ∈ vs, Looks M s.heap (typeOf v) (.type "tuple") := fun v hv => by
      obtain ⟨ks, tv⟩ := t v hv
      obtain ⟨a, o, xs, n, rfl, ho, hc, hd, _⟩ := tv.isT
      rw [← hc]
      exact (Looks.ld ho).andThen .now
    refine wpAny_bind (wpAny_bind (wpAny_bind (kas_mapM (r := .type "tuple") _ (fun v hv Q' hq => (hT v hv).here hq) (wpAny_pure ?_))))
    have hall2 : ((List.map (fun _ => Value.type "tuple") vs).toArray.all fun x => x == Value.type "tuple") = true := by
      simp only [List.all_toArray, List.all_map, List.all_eq_true]
      intro _ _
      rfl
    have h0 : (List.map (fun _ => Value.type "tuple") vs).toArray[0]? = some (Value.type "tuple") := by
      cases vs with
      | nil => simp at h2
      | cons v vs => simp
    rw [h0]
    simp only [hall2, if_true]
    exact wpAny_pure (wpAny_pure ho)
end
section
variable {prog : Program} {w : World} {A : Around} {E : Value → Shared → Prop} {s : Shared}
theorem room_ints {a b : List Int} (hu : A.units + 3 < cLine) : A.units + min (tupI a).depth (tupI b).depth < cLine := by
  rw [tupI, tupI, PyData.depth, PyData.depth, depthAll_ints, depthAll_ints]; omega
theorem rc_ints {v u : Value} {a b : List Int} (t : TI s.heap v a) (t2 : TI s.heap u b) (hu : A.units + 3 < cLine) : RcLt A s v u (lexI a b) := by
  obtain ⟨as, r⟩ := t
  obtain ⟨bs, r2⟩ := t2
  have := rc_c (tupI a) (tupI b) A s v u as bs r r2 (by rw [tupI, tupI, cmpb]; exact cmpbs_ints a b) (by rw [tupI, PyData.plain]; exact plainAll_ints a) (by rw [tupI, PyData.plain]; exact plainAll_ints b) (room_ints hu)
  rw [show dataLt (tupI a) (tupI b) = lexI a b from by rw [tupI, tupI, dataLt_tuple]; exact tlt_ints a b] at this
  exact this
theorem cmp_gen {h : Heap} {vs : List Value} (hs : ∀ b o, h.get? b = some o → s.heap.get? b = some o) (hr : ∀ v ∈ vs, ∃ ks, TI h v ks) (hu : A.units + 3 < cLine) :
    SrtO.Cmp prog w A s general' (fun p => p.1 ∈ vs) (SrtO.lt2 (ltv h)) := by
  intro p q hm hm'
  obtain ⟨a, ta⟩ := hr _ hm
  obtain ⟨b, tb⟩ := hr _ hm'
  show wpAny (model prog w) A (oneLt' false p.1 q.1) (fun b s' => s' = s ∧ b = ltv h p.1 q.1) (fun _ _ => False) s
  rw [ta.ltv tb]
  refine kat_one _ _ ?_
  exact rc_ints (ta.keep hs) (tb.keep hs) hu prog w _ _ ⟨rfl, rfl⟩
theorem one_ints {v u : Value} {a b : List Int} {Q : Bool → Shared → Prop} (t : TI s.heap v a) (t2 : TI s.heap u b) (hu : A.units + 4 < cLine) (h : Q (lexI a b) s) : wpAny (model prog w) A (oneLt' true v u) Q E s := by
  rw [oneLt'_eq]
  simp only [if_true]
  refine wpAny_bind (wpAny_cRoomFor (by omega) ?_)
  obtain ⟨as, r⟩ := t
  obtain ⟨bs, r2⟩ := t2
  unfold tupI at r r2
  have hc := cmpbs_ints a b
  have pa := plainAll_ints a
  have pb := plainAll_ints b
  have da := depthAll_ints a
  have db := depthAll_ints b
  have hl := tlt_ints a b
  generalize a.map PyData.int = xs at *
  generalize b.map PyData.int = ys at *
  cases r with
  | @tuple l o p n _ _ h1 h2 h3 h4 =>
    cases r2 with
    | @tuple l' o' q m _ _ k1 k2 k3 k4 =>
      have n1 : p.size = xs.length := by simpa using ReadsAll.length _ _ _ h4
      have n2 : q.size = ys.length := by simpa using ReadsAll.length _ _ _ k4
      have hroom : A.units + 1 + min (PyData.depthAll xs) (PyData.depthAll ys) < cLine := by omega
      have ask : LtAsk A.in1 s p q (pairEq xs ys) (fun j => dataLt (xs.getD j .none) (ys.getD j .none)) := by
        refine ⟨fun j j1 j2 _ => ?_, fun j j1 j2 hp hj => ?_⟩
        · have := eqAt_plainAll xs ys A.in1 s p.toList q.toList _ _ h4 k4 pa pb (by show A.units + 1 + _ < cLine; omega) j (by simpa using j1) (by simpa using j2)
          simpa using this
        · have := rc_cs xs ys A.in1 s p.toList q.toList _ _ h4 k4 hc pa pb (by show A.units + 1 + _ < cLine; omega) j (by simpa using j1) (by simpa using j2) hp hj
          simpa using this
      have fin : Q (ltFrom p q (pairEq xs ys) (fun j => dataLt (xs.getD j .none) (ys.getD j .none)) 0) s := by
        have e := first_c xs ys hc
        rw [← n1, ← n2] at e
        rw [show ltFrom p q (pairEq xs ys) (fun j => dataLt (xs.getD j .none) (ys.getD j .none)) 0 = lexI a b from by rw [← hl]; exact e]
        exact h
      obtain ⟨c1, d1, dt1, s1⟩ := o
      obtain ⟨c2, d2, dt2, s2⟩ := o'
      dsimp only at h2 h3 k2 k3
      subst h2 h3 k2 k3
      refine wpAny_bind (wpAny_callSpecialIfBound?_slot ⟨_, h1, rfl⟩ F.slot_tuple_lt (call_meets F.slot_tuple_lt ⟨_, h1, rfl⟩ F.entry_tuple_lt (F.args_tuple_lt_2 _ _) (lt_meets l l' p q n m d1 d2 s1 s2 _ _) ⟨h1, k1, ask, ?_⟩))
      exact wpAny_truthy_bool fin
theorem cmp_one {h : Heap} {vs : List Value} (hs : ∀ b o, h.get? b = some o → s.heap.get? b = some o) (hr : ∀ v ∈ vs, ∃ ks, TI h v ks) (hu : A.units + 4 < cLine) :
    SrtO.Cmp prog w A s oneType' (fun p => p.1 ∈ vs) (SrtO.lt2 (ltv h)) := by
  intro p q hm hm'
  obtain ⟨a, ta⟩ := hr _ hm
  obtain ⟨b, tb⟩ := hr _ hm'
  show wpAny (model prog w) A (keyLt' oneType' p.1 q.1) (fun b s' => s' = s ∧ b = ltv h p.1 q.1) (fun _ _ => False) s
  rw [ta.ltv tb, keyLt'_oneType]
  exact one_ints (ta.keep hs) (tb.keep hs) hu ⟨rfl, rfl⟩
theorem readAll_ints {h : Heap} : ∀ {vs : List Value} {ks : List Int}, IntsAre vs ks → ∃ as, ReadsAll h vs (ks.map .int) as
  | _, _, .nil => ⟨_, .nil⟩
  | _, _, .cons k t r => by
    obtain ⟨as, ra⟩ := readAll_ints r
    exact ⟨_, .cons (.int _ _) ra⟩
theorem first_some {h : Heap} {v : Value} {ks : List Int} (t : TI h v ks) (hf : (firstV h v).isSome = true) : ∃ i r, ks = i :: r := by
  obtain ⟨a, o, xs, n, rfl, ho, hc, hd, hz⟩ := t.isT
  obtain ⟨c, d, dt, sl⟩ := o
  dsimp only at hd
  subst hd
  simp only [firstV, ho] at hf
  cases ks with
  | nil =>
    rw [List.length_nil] at hz
    rw [Array.getElem?_eq_none (by omega)] at hf
    cases hf
  | cons i r => exact ⟨i, r, rfl⟩
theorem paths_sortableO {h : Heap} {a : Addr} {vs : List Value} (h2 : 0 < vs.length) (hr : ∀ v ∈ vs, ∃ ks, TI h v ks) (hs : ∀ b o, h.get? b = some o → b ≠ a ∧ s.heap.get? b = some o) (hu : A.units + 62 < cLine) : SrtO.SortableO prog w A s a vs (ltv h) := by
  intro h' keep
  have K : ∀ b o, h.get? b = some o → h'.get? b = some o := fun b o e => keep b o (hs b o e).1 (hs b o e).2
  have hr' : ∀ v ∈ vs, ∃ ks, TI h' v ks := fun v hv => by
    obtain ⟨ks, t⟩ := hr v hv
    exact ⟨ks, t.keep K⟩
  cases hall : (vs.map (firstV h')).all fun x => x.isSome with
  | true =>
    have ne : ∀ v ∈ vs, ∃ i r, TI h v (i :: r) := fun v hv => by
      obtain ⟨ks, t⟩ := hr v hv
      obtain ⟨i, r, rfl⟩ := first_some (t.keep K) (List.all_eq_true.mp hall _ (List.mem_map_of_mem hv))
      exact ⟨i, r, t⟩
    obtain ⟨fs, f1, f2, f3⟩ := tups_c (h := h') (vs := vs) fun v hv => by
      obtain ⟨i, r, t⟩ := ne v hv
      obtain ⟨as, ra⟩ := t.keep K
      unfold tupI at ra
      rw [List.map_cons] at ra
      exact ⟨i, r.map .int, as, ra⟩
    refine ⟨tuples' true, fun Q E hq => ?_, cmp_c (s := { s with heap := h' }) (ds := vs.map (readOf h)) K ⟨fun d hd => ?_, fun d hd d' hd' => ?_⟩ (fun v hv => ?_) (by show A.units + 61 < cLine; omega)⟩
    · refine kat_kind (T := .type "int") f1 (by omega) (fun f hm => ?_) (by rfl) ?_
      · obtain ⟨x, t, rfl⟩ := f3 f hm
        exact Looks.now
      · rw [show (Value.type "int" != Value.type "tuple") = true from by decide +kernel]
        exact hq
    · obtain ⟨v, hv, rfl⟩ := List.mem_map.mp hd
      obtain ⟨i, r, t⟩ := ne v hv
      rw [t.read, tupI]
      refine ⟨by rw [PyData.plain]; exact plainAll_ints _, by rw [PyData.depth, depthAll_ints]; omega, i, r.map .int, by rw [List.map_cons]⟩
    · obtain ⟨v, hv, rfl⟩ := List.mem_map.mp hd
      obtain ⟨v', hv', rfl⟩ := List.mem_map.mp hd'
      obtain ⟨i, r, t⟩ := ne v hv
      obtain ⟨i', r', t'⟩ := ne v' hv'
      rw [t.read, t'.read, tupI, tupI, cmpb]
      exact cmpbs_ints _ _
    · obtain ⟨i, r, as, t⟩ := ne v hv
      exact ⟨_, List.mem_map_of_mem hv, as, by rw [TI.read ⟨as, t⟩]; exact t⟩
  | false =>
    cases hf : ((vs.map (firstV h'))[0]?.bind id).isSome with
    | true =>
      refine ⟨general', fun Q E hq => ?_, cmp_gen (s := { s with heap := h' }) K hr (by show A.units + 3 < cLine; omega)⟩
      exact kind_o' (s := { s with heap := h' }) h2 hr' hall (fun _ => hq) (fun z => by rw [hf] at z; cases z)
    | false =>
      refine ⟨oneType', fun Q E hq => ?_, cmp_one (s := { s with heap := h' }) K hr (by show A.units + 4 < cLine; omega)⟩
      exact kind_o' (s := { s with heap := h' }) h2 hr' hall (fun z => by rw [hf] at z; cases z) (fun _ => hq)
end
section
variable {P : Program} {w : World} {A : Around} {E : Value → Shared → Prop} {s : Shared}
theorem ti_of {h : Heap} {k : List Int} {b : Addr} (x : IsT P w h k b) : TI h (.ref b) k := by
  obtain ⟨c, items, e, ⟨o, ho, hc, n, hd⟩, hi⟩ := tupInts_of x
  cases e
  obtain ⟨as, ra⟩ := readAll_ints (h := h) hi
  exact ⟨_, .tuple ho hc hd ra⟩
theorem rows_back {L : List (Addr × List Int)} : ∀ vs : List Value, (∀ v ∈ vs, ∃ q ∈ L, v = Value.ref q.1) → ∃ L1 : List (Addr × List Int), vs = L1.map (fun q => Value.ref q.1) ∧ ∀ q ∈ L1, q ∈ L
  | [], _ => ⟨[], rfl, fun q hq => nomatch hq⟩
  | v :: vs, hv => by
    obtain ⟨L1, rfl, hs⟩ := rows_back vs fun u hu => hv u (List.mem_cons_of_mem _ hu)
    obtain ⟨q, hq, rfl⟩ := hv v (List.mem_cons_self ..)
    exact ⟨q :: L1, rfl, fun r hr => (List.mem_cons.mp hr).elim (fun z => by rw [z]; exact hq) (hs r)⟩
theorem sorted_setP {a : Addr} {L : List (Addr × List Int)} {es : Array (Int × Value)} {ep : Nat} {t : SetTable} {Q : Value → Shared → Prop} (R : SetTR P w s.heap a L es ep t) (hh : A.handled = none) (hu : A.units + 66 < cLine)
    (hQ : ∀ s' p (out : Array Value) (c : Nat) (L' : List (Addr × List Int)), (∀ b o, s.heap.get? b = some o → s'.heap.get? b = some o) → s'.gens = s.gens → s'.os = s.os → s.heap.objs.size ≤ p →
      s'.heap.get? p = some (seqObj "list" out c) → out.toList = L'.map (fun q => Value.ref q.1) → L'.Perm L → L'.Pairwise (fun q r => lexI r.2 q.2 = false) → Q (.ref p) s') :
    wpAny (model P w) A (call (.builtin "sorted") [.ref a]) Q E s := by
  obtain ⟨o, ho, hex, hd⟩ := R.ob
  have few := R.few
  refine Calls.call_function_entry kind_sorted plain_sorted entry_sorted (args_sorted1 _) ?_; unfold Builtin.«sorted»; refine wpAny_bind (m := checkCount "sorted" 1 1 _) (wpAny_pure ?_)
  refine wpAny_bind (collect_set (A := A.in1) hh ⟨o, ho, hex.1, hd⟩ R.fits (by unfold scanBound; have := R.size; omega) R.tab.ris R.led fun s1 vs k1 hz g1 o1 pm => ?_)
  rw [show es.toList.map (·.2) = L.map fun q => Value.ref q.1 from by rw [R.rows]; unfold L2.rowsOf; rw [List.map_map]; rfl] at pm
  have tiL : ∀ q ∈ L, TI s.heap (.ref q.1) q.2 := fun q hq => ti_of (R.tup q hq)
  have one : ∀ q ∈ L, ∀ r ∈ L, q.1 = r.1 → q = r := fun q hq r hr e => by
    have a1 := R.tup q hq
    rw [e] at a1
    exact Prod.ext e (a1.inj (R.tup r hr))
  have nL : L.Nodup := nodup_of_map R.nd
  have perm_of : ∀ L1 : List (Addr × List Int), (∀ q ∈ L1, q ∈ L) → (L1.map (fun q => Value.ref q.1)).Perm (L.map fun q => Value.ref q.1) → L1.Perm L := by
    intro L1 hs pm1
    have nref : (L.map fun q => Value.ref q.1).Nodup := List.pairwise_map.mpr (List.Pairwise.imp_of_mem (fun {q r} hq hr hne e => hne (one q hq r hr (by injection e))) nL)
    refine (List.perm_ext_iff_of_nodup (nodup_of_map (pm1.nodup_iff.mpr nref)) nL).mpr fun q => ⟨hs q, fun hq => ?_⟩
    obtain ⟨r, hr, e⟩ := List.mem_map.mp (pm1.mem_iff.mpr (List.mem_map.mpr ⟨q, hq, rfl⟩) : Value.ref q.1 ∈ L1.map fun q => Value.ref q.1)
    rw [← one r (hs r hr) q hq (by injection e)]
    exact hr
  have hvl : vs.length < 64 := by rw [pm.length_eq, List.length_map]; exact few
  have vti : ∀ v ∈ vs, ∃ q ∈ L, v = Value.ref q.1 := fun v hv => by
    obtain ⟨q, hq, e⟩ := List.mem_map.mp (pm.mem_iff.mp hv)
    exact ⟨q, hq, e.symm⟩
  refine wpAny_bind (wpAny_newList ?_ (by rw [sizeLine_eq]; omega))
  have hoL : (s1.heap.push (seqObj "list" vs.toArray 0)).get? s1.heap.objs.size = some (seqObj "list" vs.toArray 0) := Heap.get?_push_size _ rfl
  have kp : ∀ b u, s.heap.get? b = some u → b ≠ s1.heap.objs.size ∧ (s1.heap.push (seqObj "list" vs.toArray 0)).get? b = some u := fun b u e =>
    ⟨Nat.ne_of_lt (Heap.lt_size (k1 b u e)), Heap.get?_push_of_some _ (k1 b u e)⟩
  refine wpAny_bind (wpAny_holding (wpAny_call_entry slot_list_sort ⟨_, hoL, rfl⟩ entry_list_sort (SrtO.list_sort_ord (s := { s1 with heap := s1.heap.push (seqObj "list" vs.toArray 0) }) (swo_ltv s.heap) hoL (by rw [sizeLine_eq]; omega)
    (fun h2 => paths_sortableO (h := s.heap) (by omega) (fun v hv => by obtain ⟨q, hq, rfl⟩ := vti v hv; exact ⟨_, tiL q hq⟩) kp (by show A.units + 2 + 62 < cLine; omega)) fun out hs hb => ⟨_, rfl, ?_⟩) (args_list_sort _)))
  have pmo : out.Perm vs := hb.perm
  obtain ⟨L', e', hs'⟩ := rows_back (L := L) out fun v hv => vti v (pmo.mem_iff.mp hv)
  have pL : L'.Perm L := perm_of L' hs' (by rw [← e']; exact pmo.trans pm)
  have pw : L'.Pairwise (fun q r => lexI r.2 q.2 = false) := by
    rw [e'] at hs
    refine List.Pairwise.imp_of_mem (fun {q r} hq hr hle => ?_) (List.pairwise_map.mp hs)
    rw [← (tiL r (hs' r hr)).ltv (tiL q (hs' q hq))]
    exact hle
  obtain ⟨c, hc⟩ := sortedHeap_at (vs := vs) (out := out.toArray) hoL
  refine wpAny_pure ⟨_, rfl, hQ _ s1.heap.objs.size out.toArray c L' (fun b u e => ?_) g1 o1 hz hc e' pL pw⟩
  have lt1 := Heap.lt_size (k1 b u e)
  show (sortedHeap (s1.heap.push (seqObj "list" vs.toArray 0)) s1.heap.objs.size vs out.toArray).get? b = some u
  rw [sortedHeap_old (Nat.ne_of_lt lt1) (by rw [size_push']; exact Nat.lt_succ_of_lt lt1)]
  exact (kp b u e).2
end
def rSortedP (K : PySem.W.Frag) (P : Program) (w : World) : List V → Hp → VK → Prop := fun vs H Q => ∃ (a : Addr) (L : List (Addr × List Int)), vs = [V.ref a] ∧ H a = some (SetTO P w a L) ∧ (∀ p ∈ L, SqT K H p.1 (p.2.map V.int)) ∧
  ∀ (L' : List (Addr × List Int)) (p : Addr), L'.Perm L → (L'.map (·.2)).Nodup → L'.length < 64 → L'.Pairwise (fun q r => lexI r.2 q.2 = false) → H p = none → Q (.ref p) (upd H p (.lst (L'.map fun q => V.ref q.1)))
def ptI (p : List Int) : D := .tup (p.map .int)
def dSortSetP (te : DTE) : DTE := fun ρ G Q => te ρ G fun x G1 => ∃ ps : List (List Int), lsOf G1 x = some (ps.map ptI) ∧ ps.length < 64 ∧ ps.Pairwise (fun a b => lexI a b = true) ∧ ∀ p, G1 p = none → Q (.ref p) (updG G1 p (.lst (ps.map ptI)))
theorem lexI_irr : ∀ a : List Int, lexI a a = false
  | [] => rfl
  | x :: a => by rw [lexI, if_pos rfl, lexI_irr a]
theorem lexI_tri : ∀ a b : List Int, lexI a b = false → lexI b a = false → a = b
  | [], [], _, _ => rfl
  | [], _ :: _, h, _ => by simp [lexI] at h
  | _ :: _, [], _, h => by simp [lexI] at h
  | x :: a, y :: b, h, h2 => by
    rw [lexI] at h h2
    by_cases e : x = y
    · subst e
      rw [if_pos rfl] at h h2
      rw [lexI_tri a b h h2]
    · rw [if_neg e] at h
      rw [if_neg (fun z => e z.symm)] at h2
      simp only [decide_eq_false_iff_not] at h h2
      omega
theorem lexI_asym : ∀ a b : List Int, lexI a b = true → lexI b a = true → False
  | [], [], h, _ => by simp [lexI] at h
  | [], _ :: _, _, h => by simp [lexI] at h
  | _ :: _, [], h, _ => by simp [lexI] at h
  | x :: a, y :: b, h, h2 => by
    rw [lexI] at h h2
    by_cases e : x = y
    · subst e
      rw [if_pos rfl] at h h2
      exact lexI_asym a b h h2
    · rw [if_neg e] at h
      rw [if_neg (fun z => e z.symm)] at h2
      simp only [decide_eq_true_eq] at h h2
      omega
theorem asc_eq : ∀ {a b : List (List Int)}, a.Perm b → a.Pairwise (fun q r => lexI r q = false) → b.Pairwise (fun q r => lexI r q = false) → a = b
  | [], b, p, _, _ => (List.nil_perm.mp p).symm
  | x :: a, [], p, _, _ => by have := p.length_eq; simp at this
  | x :: a, y :: b, p, h, h2 => by
    have e : x = y := by
      rw [List.pairwise_cons] at h h2
      rcases List.mem_cons.mp (p.mem_iff.mp (List.mem_cons_self ..) : x ∈ y :: b) with e | hx
      · exact e
      rcases List.mem_cons.mp (p.mem_iff.mpr (List.mem_cons_self ..) : y ∈ x :: a) with e | hy
      · exact e.symm
      exact lexI_tri x y (h2.1 x hx) (h.1 y hy)
    subst e
    rw [asc_eq (List.Perm.cons_inv p) (List.pairwise_cons.mp h).2 (List.pairwise_cons.mp h2).2]
section
variable {K : PySem.W.Frag} {G : GH} {H : Hp}
theorem ints_rep : ∀ {p : List Int} {xs : List V}, RepL K G H (p.map D.int) xs → xs = p.map V.int
  | [], xs, h => by unfold RepL at h; exact h
  | i :: p, xs, h => by
    rw [List.map_cons] at h
    unfold RepL at h
    obtain ⟨x, r, rfl, h1, h2⟩ := h
    rw [rv_int h1, ints_rep h2]; rfl
theorem rep_ints : ∀ p : List Int, RepL K G H (p.map D.int) (p.map V.int)
  | [] => repL_nil
  | i :: p => repL_cons int_rv (rep_ints p)
theorem tups_at : ∀ {ps : List (List Int)} {xs : List V}, RepL K G H (ps.map ptI) xs → ∃ ks : List (Addr × List Int), xs = ks.map (fun p => V.ref p.1) ∧ ks.map (·.2) = ps ∧ ∀ q ∈ ks, TupAt K G H q.1 (q.2.map V.int)
  | [], xs, h => by unfold RepL at h; exact ⟨[], h, rfl, fun q hq => nomatch hq⟩
  | p :: ps, xs, h => by
    rw [List.map_cons] at h
    unfold RepL at h
    obtain ⟨x, r, rfl, h1, h2⟩ := h
    obtain ⟨ks, rfl, e, ht⟩ := tups_at h2
    unfold ptI RepV at h1
    obtain ⟨a, ys, rfl, ha, hy⟩ := h1
    rw [ints_rep hy] at ha
    exact ⟨(a, p) :: ks, rfl, by rw [List.map_cons, e], fun q hq => (List.mem_cons.mp hq).elim (fun z => by rw [z]; exact ha) (ht q)⟩
theorem rep_tups : ∀ {ks : List (Addr × List Int)}, (∀ q ∈ ks, TupAt K G H q.1 (q.2.map V.int)) → RepL K G H ((ks.map (·.2)).map ptI) (ks.map fun q => V.ref q.1)
  | [], _ => repL_nil
  | q :: ks, h => by
    rw [List.map_cons, List.map_cons, List.map_cons]
    refine repL_cons ?_ (rep_tups fun r hr => h r (List.mem_cons_of_mem _ hr))
    unfold ptI RepV
    exact ⟨_, _, rfl, h q (List.mem_cons_self ..), rep_ints _⟩
end
section
variable {X : Cx}
theorem cr_sortedP (hc : X.calm = true) (hu : X.A.units + 66 < cLine) : CallR X (.builtin "sorted") (rSortedP X.K X.prog X.w) := by
  intro pins s σ H vs us Q I r h
  obtain ⟨a, L, rfl, ha, hk, q⟩ := h
  obtain ⟨es, ep, t, R⟩ := SetT0.full ((I.hok a _ ha).1 : SetT0 X.prog X.w s.heap a L) fun p hp => I.isT (hk p hp)
  rw [Vals.ref1 r]
  refine sorted_setP R (I.ok.hd hc) hu fun s' p out c L' k g o hp hg hout pm pw => ?_
  have few : L'.length < 64 := by rw [pm.length_eq]; exact R.few
  have nn : H p = none := I.hok.fresh hp
  have J : Inv X pins σ (upd H p (.lst (L'.map fun q => V.ref q.1))) { s with heap := s'.heap, gens := s'.gens, drawn := s'.drawn, toks := s'.toks } :=
    I.call (ch := []) (Un.laid k hp nn) (I.hok.laid k hp ⟨by rw [List.length_map, sizeLine_eq]; omega, out.toList, c, by rw [hout]; exact vals_of_refs L', hg⟩) (by rw [g]; exact I.bare) (fun _ z => nomatch z)
  rw [show s' = { s with heap := s'.heap, gens := s'.gens, drawn := s'.drawn, toks := s'.toks } from by cases s'; cases s; cases o; rfl]
  exact ⟨.ref p, _, J, rfl, q L' p pm ((pm.map (·.2)).nodup_iff.mpr R.nd) few pw nn⟩
theorem de_sortSetP {e : Expr} {te : DTE} {p1 p2 pos1 pos2 : Pos} (hc : X.calm = true) (hu : X.A.units + 70 < cLine) (hG : Gl X "sorted") (hM : X.mg "sorted" = none) (hG2 : Gl X "set") (hM2 : X.mg "set" = none) (he : DE X e te)
    (hst : starEach [e] X.env = (false, eval e X.env) :: starEach [] X.env := by rfl) :
    DE X (.Call (.Name "sorted" p1) [.Call (.Name "set" p2) [e] [] pos2] [] pos1) (dSortSetP te) := by
  refine (pe_callB (cr_sortedP hc (by omega)) hG hM (by decide +kernel) (pa_cons (pe_callTy (cr_setOfT hc (by omega)) hG2 hM2 (by decide +kernel) (pa_cons he pa_nil hst) (he := hst)) pa_nil)).imp ?_
  rintro σ H Q ⟨ρ, G, q, r, h, k⟩
  refine ⟨ρ, G, _, r, h, fun v d H1 G1 e1 r1 v1 h1 => ?_⟩
  obtain ⟨ps, hl, hn, hasc, h1⟩ := h1
  obtain ⟨a, xs, rfl, ha, rl⟩ := ls_at r1.gok v1 hl
  obtain ⟨ks, rfl, hks, ht⟩ := tups_at rl
  have hkl : ks.length < 64 := by rw [← hks, List.length_map] at hn; exact hn
  refine ⟨a, ks, rfl, SqL.of ha, fun q hq => (ht q hq).sq, hkl, fun p L hp hL1 hL2 => ?_⟩
  have e2 : Ext G1 H1 G1 (upd H1 p (SetTO X.prog X.w p L)) := Ext.new hp
  refine ⟨p, L, rfl, upd_same, fun q hq => ((ht q (hL1 q hq)).ext e2).sq, fun L' p' pm nd few pw hp' => ?_⟩
  have g2 := r1.gok.new (o := SetTO X.prog X.w p L) hp
  have ht' : ∀ q ∈ L', TupAt X.K G1 (upd H1 p (SetTO X.prog X.w p L)) q.1 (q.2.map V.int) := fun q hq => (ht q (hL1 q (pm.mem_iff.mp hq))).ext e2
  have nps : ps.Nodup := List.Pairwise.imp (fun {a b} h e => by subst e; rw [lexI_irr] at h; cases h) hasc
  have ees : L'.map (·.2) = ps := by
    refine asc_eq ((List.perm_ext_iff_of_nodup nd nps).mpr fun x => ⟨fun hx => ?_, fun hx => ?_⟩) (List.pairwise_map.mpr pw) (List.Pairwise.imp (fun {a b} h => ?_) hasc)
    · obtain ⟨q, hq, rfl⟩ := List.mem_map.mp hx
      rw [← hks]; exact List.mem_map_of_mem (hL1 q (pm.mem_iff.mp hq))
    · rw [← hks] at hx
      obtain ⟨q, hq, rfl⟩ := List.mem_map.mp hx
      exact (pm.map (·.2)).mem_iff.mpr (hL2 q hq)
    · cases e : lexI b a with
      | false => rfl
      | true => exact (lexI_asym a b h e).elim
  have rr := rep_tups ht'
  rw [ees] at rr
  obtain ⟨e3, g3, v3⟩ := new_lst g2 hp' rr
  exact k _ _ _ _ ((e1.trans e2).trans e3) ((r1.ext e2 g2).ext e3 g3) v3 (h1 p' (g2.fresh hp'))
end
end Dl

namespace Dl
open PySem L2
end Dl


namespace K12
open PySem L2 Dl
def r_is_integer : DTS :=
  (dRet (dAndV (dIsi "int" (dVar 0)) (dNotV (dIsi "bool" (dVar 0)))))

def r_is_number (sp_is_integer : DSp) : DTS :=
  (dRet (dAndV (dCall sp_is_integer (dCons (dVar 0) dNil)) (dOp rGe (dVar 0) (dC (.int 0)))))

def r_is_amount (sp_is_integer : DSp) : DTS :=
  (dRet (dAndV (dCall sp_is_integer (dCons (dVar 0) dNil)) (dOp rGe (dVar 0) (dC (.int 1)))))

def r_work_word : DTS :=
  (dSeq (dIfS (dOr (dNot (dTru (dIsi "tuple" (dVar 0)))) (dOr (dTst (dOp rEqv (dCB rLen (dCons (dVar 0) dNil)) (dC (.int 0)))) (dNot (dTru (dIsi "str" (dOp rIx (dVar 0) (dC (.int 0))))))))
  (dRet (dC .non))
  dNext)
  (dSeq (dAsg (dOp rIx (dVar 0) (dC (.int 0))) (gNm 1))
  (dRet (dIf (dAnd (dTst (dInW id [("tick", 2), ("some", 4), ("row", 2), ("loop", 5), ("either", 2), ("beside", 3)] (dVar 1))) (dTst (dOp rEqv (dCB rLen (dCons (dVar 0) dNil)) (dGetW [("tick", 2), ("some", 4), ("row", 2), ("loop", 5), ("either", 2), ("beside", 3)] (dVar 1))))) (dVar 1) (dC .non)))))

def r_inner_works : DTS :=
  (dSeq (dIfS (dTst (dOp (rInn id) (dOp rIx (dVar 0) (dC (.int 0))) (dTup (dCons (dC (.str "row")) (dCons (dC (.str "either")) dNil)))))
  (dRet (dFrz (dCB rLstC (dCons (dOp rIx (dVar 0) (dC (.int 1))) dNil))))
  dNext)
  (dSeq (dIfS (dTst (dOp rEqv (dOp rIx (dVar 0) (dC (.int 0))) (dC (.str "loop"))))
  (dRet (dFrz (dLst (dCons (dOp rIx (dVar 0) (dC (.int 4))) dNil))))
  dNext)
  (dRet (dIf (dTst (dOp rEqv (dOp rIx (dVar 0) (dC (.int 0))) (dC (.str "beside")))) (dFrz (dLst (dCons (dOp rIx (dVar 0) (dC (.int 1))) (dCons (dOp rIx (dVar 0) (dC (.int 2))) dNil)))) (dFrz (dLst dNil))))))

def r_form_fault (sp_is_number : DSp) (sp_is_amount : DSp) (sp_work_word : DSp) : DTS :=
  (dSeq (dAsg (dCall sp_work_word (dCons (dVar 0) dNil)) (gNm 1))
  (dSeq (dIfS (dTst (dOp (rIsN id) (dVar 1) (dC .non)))
  (dRet (dC (.str "word")))
  dNext)
  (dSeq (dIfS (dTst (dOp rEqv (dVar 1) (dC (.str "tick"))))
  (dRet (dIf (dTru (dCall sp_is_amount (dCons (dOp rIx (dVar 0) (dC (.int 1))) dNil))) (dC .non) (dC (.str "number"))))
  dNext)
  (dSeq (dIfS (dTst (dOp (rInn id) (dVar 1) (dC (.tup [.str "some", .str "loop"]))))
  (dSeq (dIfS (dOr (dNot (dTru (dCall sp_is_number (dCons (dOp rIx (dVar 0) (dC (.int 1))) dNil)))) (dOr (dNot (dTru (dCall sp_is_number (dCons (dOp rIx (dVar 0) (dC (.int 2))) dNil)))) (dTst (dOp rGt (dOp rIx (dVar 0) (dC (.int 1))) (dOp rIx (dVar 0) (dC (.int 2)))))))
  (dRet (dC (.str "bounds")))
  dNext)
  (dRet (dIf (dTru (dIsi "bool" (dOp rIx (dVar 0) (dC (.int 3))))) (dC .non) (dC (.str "told")))))
  dNext)
  (dSeq (dIfS (dTst (dOp rEqv (dVar 1) (dC (.str "beside"))))
  (dRet (dC .non))
  dNext)
  (dSeq (dIfS (dOr (dNot (dTru (dIsi "tuple" (dOp rIx (dVar 0) (dC (.int 1)))))) (dAnd (dTst (dOp rEqv (dVar 1) (dC (.str "either")))) (dTst (dOp rEqv (dCB rLen (dCons (dOp rIx (dVar 0) (dC (.int 1))) dNil)) (dC (.int 0))))))
  (dRet (dC (.str "works")))
  dNext)
  (dRet (dC .non))))))))

def r_inner_pairs (sp_inner_works : DSp) : DTS :=
  (dRet (dFrz (dLc (iEnL (dCall sp_inner_works (dCons (dVar 1) dNil))) (.tup [2, 3]) dYes (dTup (dCons (dTup (dStar (dVar 0) (dCons (dVar 2) dNil))) (dCons (dVar 3) dNil))) [2, 3])))

def r_work_fault (sp_inner_pairs : DSp) (sp_form_fault : DSp) : DTS :=
  (dSeq (dAsg (dLst (dCons (dTup (dCons (dTup dNil) (dCons (dVar 0) dNil))) dNil)) (gNm 1))
  (dSeq (dWhile (dTst (dOp rGt (dCB rLen (dCons (dVar 1) dNil)) (dC (.int 0))))
  (dSeq (dAsg (dMt mPop (dVar 1) dNil) (gTp 2 (gsCons (gNm 2) (gsCons (gNm 3) gsNil))))
  (dSeq (dAsg (dCall sp_form_fault (dCons (dVar 3) dNil)) (gNm 4))
  (dSeq (dIfS (dTst (dOp (rIsN not) (dVar 4) (dC .non)))
  (dRet (dTup (dCons (dVar 4) (dCons (dVar 2) dNil))))
  dNext)
  (dDrop (dMt mExtend (dVar 1) (dCons (dFrz (dRev (dCall sp_inner_pairs (dCons (dVar 2) (dCons (dVar 3) dNil))))) dNil)))))))
  (dRet (dC .non))))

def r_is_work (sp_work_fault : DSp) : DTS :=
  (dRet (dOp (rIsN id) (dCall sp_work_fault (dCons (dVar 0) dNil)) (dC .non)))

def r_require_usable : DTS :=
  (dIfS (dNot (dTru (dVar 0)))
  dNever
  dNext)

def r_all_pairs (sp_inner_pairs : DSp) : DTS :=
  (dSeq (dAsg (dLst dNil) (gNm 1))
  (dSeq (dAsg (dLst (dCons (dTup (dCons (dTup dNil) (dCons (dVar 0) dNil))) dNil)) (gNm 2))
  (dSeq (dWhile (dTst (dOp rGt (dCB rLen (dCons (dVar 2) dNil)) (dC (.int 0))))
  (dSeq (dAsg (dMt mPop (dVar 2) dNil) (gTp 2 (gsCons (gNm 3) (gsCons (gNm 4) gsNil))))
  (dSeq (dDrop (dMt mAppend (dVar 1) (dCons (dTup (dCons (dVar 3) (dCons (dVar 4) dNil))) dNil)))
  (dDrop (dMt mExtend (dVar 2) (dCons (dFrz (dRev (dCall sp_inner_pairs (dCons (dVar 3) (dCons (dVar 4) dNil))))) dNil))))))
  (dRet (dFrz (dVar 1))))))

def r_works_along (sp_require_usable : DSp) (sp_is_number : DSp) (sp_inner_works : DSp) : DTS :=
  (dSeq (dDrop (dCall sp_require_usable (dCons (dIsi "tuple" (dVar 1)) (dCons (dC (.str "path")) (dCons (dNeg (dC (.int 1))) dNil)))))
  (dSeq (dAsg (dLst (dCons (dVar 0) dNil)) (gNm 2))
  (dSeq (dFor (iSq (dVar 1)) (gNm 3)
  (dSeq (dAsg (dCall sp_inner_works (dCons (dOp rIx (dVar 2) (dNeg (dC (.int 1)))) dNil)) (gNm 4))
  (dSeq (dDrop (dCall sp_require_usable (dCons (dAndV (dCall sp_is_number (dCons (dVar 3) dNil)) (dOp rLt (dVar 3) (dCB rLen (dCons (dVar 4) dNil)))) (dCons (dC (.str "path")) (dCons (dNeg (dC (.int 1))) dNil)))))
  (dDrop (dMt mAppend (dVar 2) (dCons (dOp rIx (dVar 4) (dVar 3)) dNil))))))
  (dRet (dFrz (dVar 2))))))

def r_put_inner : DTS :=
  (dSeq (dAsg (dOp rIx (dVar 0) (dC (.int 0))) (gNm 3))
  (dSeq (dIfS (dTst (dOp rEqv (dVar 3) (dC (.str "loop"))))
  (dRet (dTup (dStar (dSl (dVar 0) dNoP (dP (dC (.int 4)))) (dCons (dVar 2) dNil))))
  dNext)
  (dSeq (dIfS (dTst (dOp rEqv (dVar 3) (dC (.str "beside"))))
  (dRet (dIf (dTst (dOp rEqv (dVar 1) (dC (.int 0)))) (dTup (dCons (dVar 3) (dCons (dVar 2) (dCons (dOp rIx (dVar 0) (dC (.int 2))) dNil)))) (dTup (dCons (dVar 3) (dCons (dOp rIx (dVar 0) (dC (.int 1))) (dCons (dVar 2) dNil))))))
  dNext)
  (dRet (dTup (dCons (dVar 3) (dCons (dTup (dStar (dSl (dOp rIx (dVar 0) (dC (.int 1))) dNoP (dP (dVar 1))) (dCons (dVar 2) (dStar (dSl (dOp rIx (dVar 0) (dC (.int 1))) (dP (dOp rAdd (dVar 1) (dC (.int 1)))) dNoP) dNil)))) dNil)))))))

def r_put_along (sp_put_inner : DSp) : DTS :=
  (dSeq (dFor (iZpM (dCons (dFrz (dRev (dVar 0))) (dCons (dRev (dVar 1)) dNil))) (gTp 2 (gsCons (gNm 3) (gsCons (gNm 4) gsNil)))
  (dAsg (dCall sp_put_inner (dCons (dVar 3) (dCons (dVar 4) (dCons (dVar 2) dNil)))) (gNm 2)))
  (dRet (dVar 2)))

def r_parts_of (sp_all_pairs : DSp) : DTS :=
  (dRet (dCB rTupC (dCons (dCall sp_all_pairs (dCons (dVar 0) dNil)) dNil)))

def r_part_at (sp_works_along : DSp) : DTS :=
  (dRet (dOp rIx (dCall sp_works_along (dCons (dVar 0) (dCons (dVar 1) dNil))) (dNeg (dC (.int 1)))))

def r_with_part (sp_put_along : DSp) (sp_require_usable : DSp) (sp_is_work : DSp) (sp_works_along : DSp) : DTS :=
  (dSeq (dAsg (dCall sp_works_along (dCons (dVar 0) (dCons (dVar 1) dNil))) (gNm 3))
  (dSeq (dDrop (dCall sp_require_usable (dCons (dCall sp_is_work (dCons (dVar 2) dNil)) (dCons (dC (.str "other")) (dCons (dNeg (dC (.int 1))) dNil)))))
  (dRet (dCall sp_put_along (dCons (dFrz (dSl (dVar 3) dNoP (dP (dNeg (dC (.int 1)))))) (dCons (dVar 1) (dCons (dVar 2) dNil)))))))

def r_size_of (sp_all_pairs : DSp) : DTS :=
  (dRet (dCB rLen (dCons (dCall sp_all_pairs (dCons (dVar 0) dNil)) dNil)))

def r_depth_of (sp_all_pairs : DSp) : DTS :=
  (dRet (dOp rAdd (dCB rMaxC (dCons (dFrz (dLc (iSq (dCall sp_all_pairs (dCons (dVar 0) dNil))) (.tup [1, 2]) dYes (dCB rLen (dCons (dVar 1) dNil)) [1, 2])) dNil)) (dC (.int 1))))

def r_loops_of (sp_all_pairs : DSp) : DTS :=
  (dRet (dCB rTupC (dCons (dFrz (dLc (iSq (dCall sp_all_pairs (dCons (dVar 0) dNil))) (.tup [1, 2]) (dTst (dOp (rInn id) (dOp rIx (dVar 2) (dC (.int 0))) (dC (.tup [.str "some", .str "loop"])))) (dVar 1) [1, 2])) dNil)))

def r_counted_along (sp_require_usable : DSp) (sp_works_along : DSp) : DTS :=
  (dSeq (dAsg (dCall sp_works_along (dCons (dVar 0) (dCons (dVar 1) dNil))) (gNm 2))
  (dSeq (dDrop (dCall sp_require_usable (dCons (dOp (rInn id) (dOp rIx (dOp rIx (dVar 2) (dNeg (dC (.int 1)))) (dC (.int 0))) (dC (.tup [.str "some", .str "loop"]))) (dCons (dC (.str "loop")) (dCons (dNeg (dC (.int 1))) dNil)))))
  (dRet (dVar 2))))

def r_bounds_of (sp_counted_along : DSp) : DTS :=
  (dSeq (dAsg (dOp rIx (dCall sp_counted_along (dCons (dVar 0) (dCons (dVar 1) dNil))) (dNeg (dC (.int 1)))) (gNm 2))
  (dRet (dTup (dCons (dOp rIx (dVar 2) (dC (.int 1))) (dCons (dOp rIx (dVar 2) (dC (.int 2))) dNil)))))

def r_with_told (sp_put_along : DSp) (sp_counted_along : DSp) : DTS :=
  (dSeq (dAsg (dCall sp_counted_along (dCons (dVar 0) (dCons (dVar 1) dNil))) (gNm 3))
  (dSeq (dAsg (dOp rIx (dVar 3) (dNeg (dC (.int 1)))) (gNm 4))
  (dRet (dCall sp_put_along (dCons (dFrz (dSl (dVar 3) dNoP (dP (dNeg (dC (.int 1)))))) (dCons (dVar 1) (dCons (dTup (dStar (dSl (dVar 4) dNoP (dP (dC (.int 3)))) (dCons (dVar 2) (dStar (dSl (dVar 4) (dP (dC (.int 4))) dNoP) dNil)))) dNil)))))))

def r_told_first (sp_with_told : DSp) : DTS :=
  (dRet (dCall sp_with_told (dCons (dVar 0) (dCons (dVar 1) (dCons (dC (.bl true)) dNil)))))

def r_told_last (sp_with_told : DSp) : DTS :=
  (dRet (dCall sp_with_told (dCons (dVar 0) (dCons (dVar 1) (dCons (dC (.bl false)) dNil)))))

def r_with_bounds (sp_put_along : DSp) (sp_require_usable : DSp) (sp_is_number : DSp) (sp_counted_along : DSp) : DTS :=
  (dSeq (dAsg (dCall sp_counted_along (dCons (dVar 0) (dCons (dVar 1) dNil))) (gNm 4))
  (dSeq (dDrop (dCall sp_require_usable (dCons (dCall sp_is_number (dCons (dVar 2) dNil)) (dCons (dC (.str "least")) (dCons (dNeg (dC (.int 1))) dNil)))))
  (dSeq (dDrop (dCall sp_require_usable (dCons (dAndV (dCall sp_is_number (dCons (dVar 3) dNil)) (dOp rLe (dVar 2) (dVar 3))) (dCons (dC (.str "most")) (dCons (dNeg (dC (.int 1))) dNil)))))
  (dSeq (dAsg (dOp rIx (dVar 4) (dNeg (dC (.int 1)))) (gNm 5))
  (dRet (dCall sp_put_along (dCons (dFrz (dSl (dVar 4) dNoP (dP (dNeg (dC (.int 1)))))) (dCons (dVar 1) (dCons (dTup (dCons (dOp rIx (dVar 5) (dC (.int 0))) (dCons (dVar 2) (dCons (dVar 3) (dStar (dSl (dVar 5) (dP (dC (.int 3))) dNoP) dNil))))) dNil)))))))))

def r_is_path_of (sp_is_number : DSp) : DTS :=
  (dRet (dAndV (dIsi "tuple" (dVar 1)) (dAndV (dCB rAllC (dCons (dFrz (dLc (iSq (dVar 1)) (.one 2) dYes (dCall sp_is_number (dCons (dVar 2) dNil)) [2])) dNil)) (dOp (rInT id) (dVar 1) (dVar 0)))))

def r_told_at (sp_with_told : DSp) (sp_require_usable : DSp) (sp_is_path_of : DSp) (sp_loops_of : DSp) : DTS :=
  (dSeq (dDrop (dCall sp_require_usable (dCons (dIsi "tuple" (dVar 1)) (dCons (dC (.str "paths")) (dCons (dNeg (dC (.int 1))) dNil)))))
  (dSeq (dAsg (dCall sp_loops_of (dCons (dVar 0) dNil)) (gNm 2))
  (dSeq (dFor (iEnT (dVar 1)) (gTp 2 (gsCons (gNm 3) (gsCons (gNm 4) gsNil)))
  (dDrop (dCall sp_require_usable (dCons (dCall sp_is_path_of (dCons (dVar 2) (dCons (dVar 4) dNil))) (dCons (dC (.str "loop")) (dCons (dVar 3) dNil))))))
  (dSeq (dAsg (dVar 0) (gNm 5))
  (dSeq (dFor (iSq (dVar 1)) (gNm 4)
  (dAsg (dCall sp_with_told (dCons (dVar 5) (dCons (dVar 4) (dCons (dC (.bl true)) dNil)))) (gNm 5)))
  (dRet (dVar 5)))))))

def r_require_paper : DTS :=
  (dIfS (dNot (dTru (dVar 0)))
  dNever
  dNext)

def r_fewest_ticks (sp_all_pairs : DSp) : DTS :=
  (dSeq (dAsg dNewT (gNm 1))
  (dSeq (dFor (iSq (dFrz (dRev (dCall sp_all_pairs (dCons (dVar 0) dNil))))) (gTp 2 (gsCons (gNm 2) (gsCons (gNm 3) gsNil)))
  (dSeq (dAsg (dOp rIx (dVar 3) (dC (.int 0))) (gNm 4))
  (dIfS (dTst (dOp (rInn id) (dVar 4) (dTup (dCons (dC (.str "tick")) (dCons (dC (.str "some")) dNil)))))
  (dAsg (dOp rIx (dVar 3) (dC (.int 1))) (gSb (dVar 1) (dVar 2) sDtp))
  (dIfS (dTst (dOp rEqv (dVar 4) (dC (.str "loop"))))
  (dAsg (dOp rMul (dOp rIx (dVar 3) (dC (.int 1))) (dDGetT (dVar 1) (dOp rAdd (dVar 2) (dTup (dCons (dC (.int 0)) dNil))))) (gSb (dVar 1) (dVar 2) sDtp))
  (dIfS (dTst (dOp rEqv (dVar 4) (dC (.str "beside"))))
  (dAsg (dOp rAdd (dDGetT (dVar 1) (dOp rAdd (dVar 2) (dTup (dCons (dC (.int 0)) dNil)))) (dDGetT (dVar 1) (dOp rAdd (dVar 2) (dTup (dCons (dC (.int 1)) dNil))))) (gSb (dVar 1) (dVar 2) sDtp))
  (dSeq (dAsg (dFrz (dLc (iRg1 (dCons (dCB rLen (dCons (dOp rIx (dVar 3) (dC (.int 1))) dNil)) dNil)) (.one 6) dYes (dDGetT (dVar 1) (dOp rAdd (dVar 2) (dTup (dCons (dVar 6) dNil)))) [6])) (gNm 5))
  (dAsg (dIf (dTst (dOp rEqv (dVar 4) (dC (.str "row")))) (dCB rSumC (dCons (dVar 5) dNil)) (dCB rMinC (dCons (dVar 5) dNil))) (gSb (dVar 1) (dVar 2) sDtp))))))))
  (dRet (dDGetT (dVar 1) (dTup dNil)))))

def r_lets_work (sp_all_pairs : DSp) (sp_require_paper : DSp) (sp_fewest_ticks : DSp) (sp_work_fault : DSp) : DTS :=
  (dSeq (dAsg (dCall sp_work_fault (dCons (dVar 0) dNil)) (gNm 1))
  (dSeq (dIfS (dTst (dOp (rIsN not) (dVar 1) (dC .non)))
  (dSeq (dAsg (dVar 1) (gTp 2 (gsCons (gNm 2) (gsCons (gNm 3) gsNil))))
  dNever)
  dNext)
  (dSeq (dDrop (dCall sp_require_paper (dCons (dOp rGt (dCall sp_fewest_ticks (dCons (dVar 0) dNil)) (dC (.int 0))) (dCons (dC (.str "ticks")) (dCons (dNeg (dC (.int 1))) dNil)))))
  (dRet (dCB rLen (dCons (dCall sp_all_pairs (dCons (dVar 0) dNil)) dNil))))))

def r_law_feed : DTS :=
  (dRet (dDisp [((dC (.str "cells")), (dFrz (dCB rLstC (dCons (dFrz (dSl (dVar 0) dNoP (dP (dC (.int 63))))) dNil)))), ((dC (.str "at")), (dC (.int 0))), ((dC (.str "left")), (dC (.int 0))), ((dC (.str "count")), (dC (.int 0)))]))

def r_law_draw : DTS :=
  (dSeq (dAsg (dOp rAdd (dDGet (dVar 0) (dC (.str "count"))) (dC (.int 1))) (gSb (dVar 0) (dC (.str "count")) sDct))
  (dSeq (dIfS (dTst (dOp rGt (dDGet (dVar 0) (dC (.str "left"))) (dC (.int 0))))
  (dSeq (dAsg (dOp rMod (dCB rIntC (dCons (dDGet (dVar 0) (dC (.str "left"))) dNil)) (dVar 1)) (gNm 2))
  (dSeq (dAsg (dOp rFdiv (dDGet (dVar 0) (dC (.str "left"))) (dVar 1)) (gSb (dVar 0) (dC (.str "left")) sDct))
  (dRet (dVar 2))))
  dNext)
  (dSeq (dAsg (dDGet (dVar 0) (dC (.str "at"))) (gNm 3))
  (dSeq (dAsg (dOp rAdd (dVar 3) (dC (.int 1))) (gSb (dVar 0) (dC (.str "at")) sDct))
  (dSeq (dAsg (dIf (dTst (dOp rNev (dDGet (dVar 0) (dC (.str "cells"))) (dFrz (dLst dNil)))) (dOp rIx (dDGet (dVar 0) (dC (.str "cells"))) (dOp rMod (dCB rIntC (dCons (dVar 3) dNil)) (dCB rLen (dCons (dDGet (dVar 0) (dC (.str "cells"))) dNil)))) (dC (.int 53))) (gNm 4))
  (dSeq (dIfS (dAnd (dTst (dOp rGe (dVar 4) (dOp rPow (dC (.int 10)) (dC (.int 18))))) (dTst (dOp rLt (dVar 3) (dCB rLen (dCons (dDGet (dVar 0) (dC (.str "cells"))) dNil)))))
  (dSeq (dAsg (dOp rFdiv (dVar 4) (dVar 1)) (gSb (dVar 0) (dC (.str "left")) sDct))
  (dRet (dOp rMod (dCB rIntC (dCons (dVar 4) dNil)) (dVar 1))))
  dNext)
  (dSeq (dAsg (dOp rMod (dCB rIntC (dCons (dOp rAdd (dOp rAdd (dOp rMod (dCB rIntC (dCons (dVar 4) dNil)) (dC (.int 1000000487))) (dOp rMul (dC (.int 240007)) (dDGet (dVar 0) (dC (.str "count"))))) (dC (.int 103))) dNil)) (dC (.int 2147482937))) (gNm 5))
  (dSeq (dAsg (dOp rMod (dCB rIntC (dCons (dOp rAdd (dOp rAdd (dOp rMul (dVar 5) (dVar 5)) (dOp rMul (dC (.int 5300003)) (dDGet (dVar 0) (dC (.str "count"))))) (dC (.int 61))) dNil)) (dC (.int 2147482921))) (gNm 5))
  (dRet (dOp rMod (dCB rIntC (dCons (dOp rFdiv (dOp rMod (dCB rIntC (dCons (dOp rAdd (dOp rMul (dVar 5) (dVar 5)) (dOp rMul (dC (.int 107)) (dVar 5))) dNil)) (dC (.int 2147482859))) (dC (.int 16))) dNil)) (dVar 1)))))))))))

def r_law_subs : DTS :=
  (dSeq (dIfS (dTst (dOp (rInn id) (dOp rIx (dVar 0) (dC (.int 0))) (dTup (dCons (dC (.str "row")) (dCons (dC (.str "either")) dNil)))))
  (dRet (dCB rLstC (dCons (dOp rIx (dVar 0) (dC (.int 1))) dNil)))
  dNext)
  (dSeq (dIfS (dTst (dOp rEqv (dOp rIx (dVar 0) (dC (.int 0))) (dC (.str "beside"))))
  (dRet (dLst (dCons (dOp rIx (dVar 0) (dC (.int 1))) (dCons (dOp rIx (dVar 0) (dC (.int 2))) dNil))))
  dNext)
  (dRet (dIf (dTst (dOp rEqv (dOp rIx (dVar 0) (dC (.int 0))) (dC (.str "loop")))) (dLst (dCons (dOp rIx (dVar 0) (dC (.int 4))) dNil)) (dLst dNil)))))

def r_law_fewest (sp_law_subs : DSp) (sp_law_fewest : DSp) : DTS :=
  (dSeq (dIfS (dTst (dOp (rInn id) (dOp rIx (dVar 0) (dC (.int 0))) (dTup (dCons (dC (.str "tick")) (dCons (dC (.str "some")) dNil)))))
  (dRet (dOp rIx (dVar 0) (dC (.int 1))))
  dNext)
  (dSeq (dAsg (dFrz (dLc (iSq (dFrz (dCall sp_law_subs (dCons (dVar 0) dNil)))) (.one 2) dYes (dCall sp_law_fewest (dCons (dVar 2) dNil)) [2])) (gNm 1))
  (dSeq (dIfS (dTst (dOp rEqv (dOp rIx (dVar 0) (dC (.int 0))) (dC (.str "either"))))
  (dRet (dCB rMinC (dCons (dVar 1) dNil)))
  dNext)
  (dRet (dIf (dTst (dOp rEqv (dOp rIx (dVar 0) (dC (.int 0))) (dC (.str "loop")))) (dOp rMul (dOp rIx (dVar 0) (dC (.int 1))) (dOp rIx (dVar 1) (dC (.int 0)))) (dCB rSumC (dCons (dVar 1) dNil)))))))

def r_law_bounds (sp_law_draw : DSp) : DTS :=
  (dSeq (dAsg (dOp rIx (dFrz (dLst (dCons (dC (.int 0)) (dCons (dC (.int 1)) (dCons (dC (.int 1)) (dCons (dC (.int 2)) (dCons (dC (.int 5)) dNil))))))) (dCall sp_law_draw (dCons (dVar 0) (dCons (dC (.int 5)) dNil)))) (gNm 1))
  (dRet (dTup (dCons (dVar 1) (dCons (dOp rAdd (dVar 1) (dOp rIx (dFrz (dLst (dCons (dC (.int 0)) (dCons (dC (.int 1)) (dCons (dC (.int 2)) (dCons (dC (.int 7)) dNil)))))) (dCall sp_law_draw (dCons (dVar 0) (dCons (dC (.int 4)) dNil))))) (dCons (dOp rEqv (dCall sp_law_draw (dCons (dVar 0) (dCons (dC (.int 2)) dNil))) (dC (.int 0))) dNil))))))

def r_law_free_work (sp_law_free_work : DSp) (sp_law_draw : DSp) (sp_law_bounds : DSp) : DTS :=
  (dSeq (dAsg (dIf (dTst (dOp rGt (dVar 1) (dC (.int 0)))) (dCall sp_law_draw (dCons (dVar 0) (dCons (dC (.int 9)) dNil))) (dCall sp_law_draw (dCons (dVar 0) (dCons (dC (.int 4)) dNil)))) (gNm 2))
  (dSeq (dIfS (dTst (dOp rLt (dVar 2) (dC (.int 2))))
  (dRet (dTup (dCons (dC (.str "tick")) (dCons (dOp rAdd (dC (.int 1)) (dOp rIx (dFrz (dLst (dCons (dC (.int 0)) (dCons (dC (.int 1)) (dCons (dC (.int 2)) (dCons (dC (.int 11)) dNil)))))) (dCall sp_law_draw (dCons (dVar 0) (dCons (dC (.int 4)) dNil))))) dNil))))
  dNext)
  (dSeq (dIfS (dTst (dOp rLt (dVar 2) (dC (.int 4))))
  (dRet (dOp rAdd (dTup (dCons (dC (.str "some")) dNil)) (dCall sp_law_bounds (dCons (dVar 0) dNil))))
  dNext)
  (dSeq (dIfS (dTst (dOp rLt (dVar 2) (dC (.int 6))))
  (dRet (dOp rAdd (dOp rAdd (dTup (dCons (dC (.str "loop")) dNil)) (dCall sp_law_bounds (dCons (dVar 0) dNil))) (dTup (dCons (dCall sp_law_free_work (dCons (dVar 0) (dCons (dOp rSub (dVar 1) (dC (.int 1))) dNil))) dNil))))
  dNext)
  (dSeq (dIfS (dTst (dOp rEqv (dVar 2) (dC (.int 8))))
  (dRet (dTup (dCons (dC (.str "beside")) (dCons (dCall sp_law_free_work (dCons (dVar 0) (dCons (dOp rSub (dVar 1) (dC (.int 1))) dNil))) (dCons (dCall sp_law_free_work (dCons (dVar 0) (dCons (dOp rSub (dVar 1) (dC (.int 1))) dNil))) dNil)))))
  dNext)
  (dSeq (dAsg (dIf (dTst (dOp rEqv (dVar 2) (dC (.int 6)))) (dCall sp_law_draw (dCons (dVar 0) (dCons (dC (.int 4)) dNil))) (dOp rAdd (dC (.int 1)) (dCall sp_law_draw (dCons (dVar 0) (dCons (dC (.int 3)) dNil))))) (gNm 3))
  (dSeq (dAsg (dCB rTupC (dCons (dFrz (dLc (iRg1 (dCons (dVar 3) dNil)) (.one 5) dYes (dCall sp_law_free_work (dCons (dVar 0) (dCons (dOp rSub (dVar 1) (dC (.int 1))) dNil))) [5])) dNil)) (gNm 4))
  (dRet (dTup (dCons (dOp rIx (dFrz (dLst (dCons (dC (.str "row")) (dCons (dC (.str "either")) dNil)))) (dOp rSub (dVar 2) (dC (.int 6)))) (dCons (dVar 4) dNil)))))))))))

def r_law_work (sp_law_fewest : DSp) (sp_law_free_work : DSp) : DTS :=
  (dSeq (dAsg (dCall sp_law_free_work (dCons (dVar 0) (dCons (dVar 1) dNil))) (gNm 2))
  (dRet (dIf (dTst (dOp rGt (dCall sp_law_fewest (dCons (dVar 2) dNil)) (dC (.int 0)))) (dVar 2) (dTup (dCons (dC (.str "row")) (dCons (dTup (dCons (dTup (dCons (dC (.str "tick")) (dCons (dC (.int 1)) dNil))) (dCons (dVar 2) dNil))) dNil))))))

def r_law_second : DTS :=
  (dSeq (dAsg (dTup (dCons (dC (.str "some")) (dCons (dC (.int 0)) (dCons (dC (.int 4)) (dCons (dC (.bl true)) dNil))))) (gNm 0))
  (dSeq (dAsg (dTup (dCons (dC (.str "loop")) (dCons (dC (.int 2)) (dCons (dC (.int 2)) (dCons (dC (.bl false)) (dCons (dTup (dCons (dC (.str "some")) (dCons (dC (.int 1)) (dCons (dC (.int 1)) (dCons (dC (.bl false)) dNil))))) dNil)))))) (gNm 1))
  (dSeq (dAsg (dTup (dCons (dC (.str "either")) (dCons (dTup (dCons (dTup (dCons (dC (.str "loop")) (dCons (dC (.int 0)) (dCons (dC (.int 3)) (dCons (dC (.bl true)) (dCons (dTup (dCons (dC (.str "beside")) (dCons (dTup (dCons (dC (.str "tick")) (dCons (dC (.int 1)) dNil))) (dCons (dTup (dCons (dC (.str "row")) (dCons (dTup dNil) dNil))) dNil)))) dNil)))))) (dCons (dTup (dCons (dC (.str "tick")) (dCons (dC (.int 7)) dNil))) (dCons (dVar 0) dNil)))) dNil))) (gNm 2))
  (dRet (dTup (dCons (dC (.str "beside")) (dCons (dTup (dCons (dC (.str "row")) (dCons (dTup (dCons (dTup (dCons (dC (.str "tick")) (dCons (dC (.int 1)) dNil))) (dCons (dTup (dCons (dC (.str "row")) (dCons (dTup dNil) dNil))) (dCons (dVar 0) dNil)))) dNil))) (dCons (dTup (dCons (dC (.str "either")) (dCons (dTup (dCons (dVar 1) (dCons (dTup (dCons (dC (.str "tick")) (dCons (dC (.int 12)) dNil))) (dCons (dVar 2) dNil)))) dNil))) dNil))))))))

def r_law_parts_right (sp_is_work : DSp) (sp_depth_of : DSp) (sp_size_of : DSp) (sp_with_part : DSp) (sp_part_at : DSp) (sp_parts_of : DSp) : DTS :=
  (dSeq (dAsg (dCall sp_parts_of (dCons (dVar 0) dNil)) (gNm 2))
  (dSeq (dAsg (dFrz (dLc (iSq (dVar 2)) (.tup [4, 5]) dYes (dVar 4) [4, 5])) (gNm 3))
  (dSeq (dIfS (dOr (dTst (dOp rNev (dCB rLen (dCons (dVar 2) dNil)) (dCall sp_size_of (dCons (dVar 0) dNil)))) (dOr (dTst (dOp rNev (dVar 3) (dFrz (dSortSetP (dVar 3))))) (dTst (dOp rNev (dOp rIx (dVar 2) (dC (.int 0))) (dTup (dCons (dTup dNil) (dCons (dVar 0) dNil)))))))
  (dRet (dC (.bl false)))
  dNext)
  (dSeq (dIfS (dTst (dOp rNev (dCall sp_depth_of (dCons (dVar 0) dNil)) (dOp rAdd (dC (.int 1)) (dCB rMaxC (dCons (dFrz (dLc (iSq (dVar 3)) (.one 4) dYes (dCB rLen (dCons (dVar 4) dNil)) [4])) dNil)))))
  (dRet (dC (.bl false)))
  dNext)
  (dSeq (dFor (iSq (dVar 2)) (gTp 2 (gsCons (gNm 4) (gsCons (gNm 5) gsNil)))
  (dSeq (dAsg (dCB rLen (dCons (dVar 4) dNil)) (gNm 6))
  (dSeq (dIfS (dOr (dTst (dOp rNev (dCall sp_part_at (dCons (dVar 0) (dCons (dVar 4) dNil))) (dVar 5))) (dOr (dNot (dTru (dCall sp_is_work (dCons (dVar 5) dNil)))) (dTst (dOp rNev (dCall sp_with_part (dCons (dVar 0) (dCons (dVar 4) (dCons (dVar 5) dNil)))) (dVar 0)))))
  (dRet (dC (.bl false)))
  dNext)
  (dSeq (dIfS (dTst (dOp rNev (dCall sp_parts_of (dCons (dVar 5) dNil)) (dCB rTupC (dCons (dFrz (dLc (iSq (dVar 2)) (.tup [7, 8]) (dTst (dOp rEqv (dSl (dVar 7) dNoP (dP (dVar 6))) (dVar 4))) (dTup (dCons (dSl (dVar 7) (dP (dVar 6)) dNoP) (dCons (dVar 8) dNil))) [7, 8])) dNil))))
  (dRet (dC (.bl false)))
  dNext)
  (dSeq (dAsg (dCall sp_with_part (dCons (dVar 0) (dCons (dVar 4) (dCons (dVar 1) dNil)))) (gNm 9))
  (dSeq (dIfS (dOr (dTst (dOp rNev (dCall sp_part_at (dCons (dVar 9) (dCons (dVar 4) dNil))) (dVar 1))) (dTst (dOp rNev (dCall sp_with_part (dCons (dVar 9) (dCons (dVar 4) (dCons (dVar 5) dNil)))) (dVar 0))))
  (dRet (dC (.bl false)))
  dNext)
  (dSeq (dIfS (dTst (dOp rNev (dCall sp_size_of (dCons (dVar 9) dNil)) (dOp rAdd (dOp rSub (dCall sp_size_of (dCons (dVar 0) dNil)) (dCall sp_size_of (dCons (dVar 5) dNil))) (dCall sp_size_of (dCons (dVar 1) dNil)))))
  (dRet (dC (.bl false)))
  dNext)
  (dIfS (dOr (dTst (dOp rLt (dCall sp_depth_of (dCons (dVar 9) dNil)) (dOp rAdd (dVar 6) (dCall sp_depth_of (dCons (dVar 1) dNil))))) (dNot (dTru (dCall sp_is_work (dCons (dVar 9) dNil)))))
  (dRet (dC (.bl false)))
  dNext))))))))
  (dRet (dC (.bl true))))))))

def r_law_loops_right (sp_told_first : DSp) (sp_told_at : DSp) (sp_with_bounds : DSp) (sp_size_of : DSp) (sp_bounds_of : DSp) (sp_loops_of : DSp) (sp_told_last : DSp) (sp_is_number : DSp) (sp_parts_of : DSp) : DTS :=
  (dSeq (dAsg (dCall sp_loops_of (dCons (dVar 0) dNil)) (gNm 1))
  (dSeq (dIfS (dTst (dOp rNev (dFrz (dCB rLstC (dCons (dVar 1) dNil))) (dFrz (dLc (iSq (dCall sp_parts_of (dCons (dVar 0) dNil))) (.tup [2, 3]) (dTst (dOp (rInT id) (dOp rIx (dVar 3) (dC (.int 0))) (dTup (dCons (dC (.str "some")) (dCons (dC (.str "loop")) dNil))))) (dVar 2) [2, 3]))))
  (dRet (dC (.bl false)))
  dNext)
  (dSeq (dFor (iSq (dVar 1)) (gNm 2)
  (dSeq (dAsg (dCall sp_bounds_of (dCons (dVar 0) (dCons (dVar 2) dNil))) (gTp 2 (gsCons (gNm 4) (gsCons (gNm 5) gsNil))))
  (dSeq (dPar 6 7 (dCons (dCall sp_told_first (dCons (dVar 0) (dCons (dVar 2) dNil))) (dCons (dCall sp_told_last (dCons (dVar 0) (dCons (dVar 2) dNil))) dNil)))
  (dSeq (dIfS (dOr (dNot (dTru (dCall sp_is_number (dCons (dVar 4) dNil)))) (dOr (dNot (dTst (dOp rLe (dVar 4) (dVar 5)))) (dOr (dTst (dOp (rInT not) (dVar 0) (dTup (dCons (dVar 6) (dCons (dVar 7) dNil))))) (dTst (dOp rEqv (dVar 6) (dVar 7))))))
  (dRet (dC (.bl false)))
  dNext)
  (dSeq (dIfS (dOr (dTst (dOp rNev (dCall sp_told_last (dCons (dVar 6) (dCons (dVar 2) dNil))) (dVar 7))) (dTst (dOp rNev (dCall sp_told_first (dCons (dVar 7) (dCons (dVar 2) dNil))) (dVar 6))))
  (dRet (dC (.bl false)))
  dNext)
  (dSeq (dIfS (dTst (dOp rNev (dCall sp_told_first (dCons (dVar 6) (dCons (dVar 2) dNil))) (dVar 6)))
  (dRet (dC (.bl false)))
  dNext)
  (dSeq (dIfS (dOr (dTst (dOp rNev (dCall sp_told_at (dCons (dVar 0) (dCons (dTup (dCons (dVar 2) dNil)) dNil))) (dVar 6))) (dOr (dTst (dOp rNev (dCall sp_bounds_of (dCons (dVar 6) (dCons (dVar 2) dNil))) (dTup (dCons (dVar 4) (dCons (dVar 5) dNil))))) (dTst (dOp rNev (dCall sp_loops_of (dCons (dVar 7) dNil)) (dVar 1)))))
  (dRet (dC (.bl false)))
  dNext)
  (dSeq (dAsg (dCall sp_with_bounds (dCons (dVar 0) (dCons (dVar 2) (dCons (dC (.int 2)) (dCons (dC (.int 40)) dNil))))) (gNm 8))
  (dSeq (dIfS (dOr (dTst (dOp rNev (dCall sp_bounds_of (dCons (dVar 8) (dCons (dVar 2) dNil))) (dTup (dCons (dC (.int 2)) (dCons (dC (.int 40)) dNil))))) (dTst (dOp rNev (dCall sp_with_bounds (dCons (dVar 8) (dCons (dVar 2) (dCons (dVar 4) (dCons (dVar 5) dNil))))) (dVar 0))))
  (dRet (dC (.bl false)))
  dNext)
  (dSeq (dIfS (dOr (dTst (dOp rNev (dCall sp_told_first (dCons (dVar 8) (dCons (dVar 2) dNil))) (dCall sp_with_bounds (dCons (dVar 6) (dCons (dVar 2) (dCons (dC (.int 2)) (dCons (dC (.int 40)) dNil))))))) (dTst (dOp rNev (dCall sp_size_of (dCons (dVar 8) dNil)) (dCall sp_size_of (dCons (dVar 0) dNil)))))
  (dRet (dC (.bl false)))
  dNext)
  (dFor (iSq (dVar 1)) (gNm 9)
  (dSeq (dIfS (dTst (dOp rNev (dCall sp_told_at (dCons (dVar 0) (dCons (dTup (dCons (dVar 2) (dCons (dVar 9) dNil))) dNil))) (dCall sp_told_first (dCons (dVar 6) (dCons (dVar 9) dNil)))))
  (dRet (dC (.bl false)))
  dNext)
  (dSeq (dIfS (dTst (dOp rNev (dCall sp_told_at (dCons (dVar 0) (dCons (dTup (dCons (dVar 9) (dCons (dVar 2) dNil))) dNil))) (dCall sp_told_at (dCons (dVar 0) (dCons (dTup (dCons (dVar 2) (dCons (dVar 9) dNil))) dNil)))))
  (dRet (dC (.bl false)))
  dNext)
  (dSeq (dAsg (dCall sp_with_bounds (dCons (dCall sp_with_bounds (dCons (dVar 0) (dCons (dVar 9) (dCons (dC (.int 0)) (dCons (dC (.int 7)) dNil))))) (dCons (dVar 2) (dCons (dC (.int 2)) (dCons (dC (.int 40)) dNil))))) (gNm 10))
  (dIfS (dAnd (dTst (dOp rNev (dVar 9) (dVar 2))) (dTst (dOp rNev (dCall sp_with_bounds (dCons (dVar 8) (dCons (dVar 9) (dCons (dC (.int 0)) (dCons (dC (.int 7)) dNil))))) (dVar 10))))
  (dRet (dC (.bl false)))
  dNext)))))))))))))))
  (dSeq (dAsg (dCall sp_told_at (dCons (dVar 0) (dCons (dVar 1) dNil))) (gNm 8))
  (dRet (dAndV (dOp rEqv (dCall sp_told_at (dCons (dVar 8) (dCons (dRev (dVar 1)) dNil))) (dVar 8)) (dOp rEqv (dFrz (dLc (iSq (dVar 1)) (.one 11) (dTst (dOp rNev (dCall sp_told_first (dCons (dVar 8) (dCons (dVar 11) dNil))) (dVar 8))) (dVar 11) [11])) (dFrz (dLst dNil)))))))))

def r_law_apart_right (sp_with_part : DSp) (sp_parts_of : DSp) : DTS :=
  (dSeq (dAsg (dFrz (dSl (dFrz (dLc (iSq (dCall sp_parts_of (dCons (dVar 0) dNil))) (.tup [2, 3]) dYes (dVar 2) [2, 3])) dNoP (dP (dC (.int 12))))) (gNm 1))
  (dSeq (dFor (iSq (dVar 1)) (gNm 4)
  (dFor (iSq (dVar 1)) (gNm 5)
  (dSeq (dAsg (dCB rMin2 (dCons (dCB rLen (dCons (dVar 4) dNil)) (dCons (dCB rLen (dCons (dVar 5) dNil)) dNil))) (gNm 6))
  (dIfS (dTst (dOp rNev (dSl (dVar 4) dNoP (dP (dVar 6))) (dSl (dVar 5) dNoP (dP (dVar 6)))))
  (dSeq (dAsg (dCall sp_with_part (dCons (dCall sp_with_part (dCons (dVar 0) (dCons (dVar 4) (dCons (dTup (dCons (dC (.str "tick")) (dCons (dC (.int 8)) dNil))) dNil)))) (dCons (dVar 5) (dCons (dTup (dCons (dC (.str "row")) (dCons (dTup dNil) dNil))) dNil)))) (gNm 7))
  (dIfS (dTst (dOp rNev (dVar 7) (dCall sp_with_part (dCons (dCall sp_with_part (dCons (dVar 0) (dCons (dVar 5) (dCons (dTup (dCons (dC (.str "row")) (dCons (dTup dNil) dNil))) dNil)))) (dCons (dVar 4) (dCons (dTup (dCons (dC (.str "tick")) (dCons (dC (.int 8)) dNil))) dNil))))))
  (dRet (dC (.bl false)))
  dNext))
  dNext))))
  (dRet (dC (.bl true)))))

def r_law (sp_law_second : DSp) (sp_law_work : DSp) (sp_lets_work : DSp) (sp_size_of : DSp) (sp_law_apart_right : DSp) (sp_law_loops_right : DSp) (sp_law_parts_right : DSp) (sp_law_free_work : DSp) (sp_law_feed : DSp) : DTS :=
  (dSeq (dAsg (dCall sp_law_feed (dCons (dVar 0) dNil)) (gNm 1))
  (dSeq (dFor (iSq (dTup (dCons (dCall sp_law_work (dCons (dVar 1) (dCons (dC (.int 3)) dNil))) (dCons (dCall sp_law_work (dCons (dVar 1) (dCons (dC (.int 2)) dNil))) (dCons (dCall sp_law_second dNil) dNil))))) (gNm 2)
  (dSeq (dAsg (dCB rRepr (dCons (dVar 2) dNil)) (gNm 3))
  (dSeq (dIfS (dNot (dTru (dCall sp_law_parts_right (dCons (dVar 2) (dCons (dCall sp_law_free_work (dCons (dVar 1) (dCons (dC (.int 2)) dNil))) dNil)))))
  (dRet (dC (.bl false)))
  dNext)
  (dSeq (dIfS (dOr (dNot (dTru (dCall sp_law_loops_right (dCons (dVar 2) dNil)))) (dNot (dTru (dCall sp_law_apart_right (dCons (dVar 2) dNil)))))
  (dRet (dC (.bl false)))
  dNext)
  (dIfS (dOr (dTst (dOp rNev (dCall sp_lets_work (dCons (dVar 2) dNil)) (dCall sp_size_of (dCons (dVar 2) dNil)))) (dTst (dOp rNev (dCB rRepr (dCons (dVar 2) dNil)) (dVar 3))))
  (dRet (dC (.bl false)))
  dNext)))))
  (dRet (dC (.bl true)))))
end K12

namespace K04
open PySem L2 Dl
def r_loops_of (sp_all_pairs : DSp) : DTS :=
  (dRet (dCB rTupC (dCons (dFrz (dLc (iSq (dCall sp_all_pairs (dCons (dVar 0) dNil))) (.tup [1, 2]) (dTst (dOp (rInn id) (dOp rIx (dVar 2) (dC (.int 0))) (dC (.tup [(.str "some"), (.str "loop")])))) (dVar 1) [1, 2])) dNil)))

def r_is_path_of (sp_is_number : DSp) : DTS :=
  (dRet (dAndV (dIsi "tuple" (dVar 1)) (dAndV (dCB rAllC (dCons (dFrz (dLc (iSq (dVar 1)) (.one 2) dYes (dCall sp_is_number (dCons (dVar 2) dNil)) [2])) dNil)) (dOp (rInT id) (dVar 1) (dVar 0)))))

end K04

namespace K03
open PySem L2 Dl
def r_is_integer : DTS :=
  (dRet (dAndV (dIsi "int" (dVar 0)) (dNotV (dIsi "bool" (dVar 0)))))

def r_is_number (sp_is_integer : DSp) : DTS :=
  (dRet (dAndV (dCall sp_is_integer (dCons (dVar 0) dNil)) (dOp rGe (dVar 0) (dC (.int 0)))))

def r_is_amount (sp_is_integer : DSp) : DTS :=
  (dRet (dAndV (dCall sp_is_integer (dCons (dVar 0) dNil)) (dOp rGe (dVar 0) (dC (.int 1)))))

def r_work_word : DTS :=
  (dSeq (dIfS (dOr (dNot (dTru (dIsi "tuple" (dVar 0)))) (dOr (dTst (dOp rEqv (dCB rLen (dCons (dVar 0) dNil)) (dC (.int 0)))) (dNot (dTru (dIsi "str" (dOp rIx (dVar 0) (dC (.int 0))))))))
  (dRet (dC .non))
  dNext)
  (dSeq (dAsg (dOp rIx (dVar 0) (dC (.int 0))) (gNm 1))
  (dRet (dIf (dAnd (dTst (dInW id [("tick", 2), ("some", 4), ("row", 2), ("loop", 5), ("either", 2), ("beside", 3)] (dVar 1))) (dTst (dOp rEqv (dCB rLen (dCons (dVar 0) dNil)) (dGetW [("tick", 2), ("some", 4), ("row", 2), ("loop", 5), ("either", 2), ("beside", 3)] (dVar 1))))) (dVar 1) (dC .non)))))

def r_inner_works : DTS :=
  (dSeq (dIfS (dTst (dOp (rInn id) (dOp rIx (dVar 0) (dC (.int 0))) (dTup (dCons (dC (.str "row")) (dCons (dC (.str "either")) dNil)))))
  (dRet (dFrz (dCB rLstC (dCons (dOp rIx (dVar 0) (dC (.int 1))) dNil))))
  dNext)
  (dSeq (dIfS (dTst (dOp rEqv (dOp rIx (dVar 0) (dC (.int 0))) (dC (.str "loop"))))
  (dRet (dFrz (dLst (dCons (dOp rIx (dVar 0) (dC (.int 4))) dNil))))
  dNext)
  (dRet (dIf (dTst (dOp rEqv (dOp rIx (dVar 0) (dC (.int 0))) (dC (.str "beside")))) (dFrz (dLst (dCons (dOp rIx (dVar 0) (dC (.int 1))) (dCons (dOp rIx (dVar 0) (dC (.int 2))) dNil)))) (dFrz (dLst dNil))))))

def r_form_fault (sp_is_number : DSp) (sp_is_amount : DSp) (sp_work_word : DSp) : DTS :=
  (dSeq (dAsg (dCall sp_work_word (dCons (dVar 0) dNil)) (gNm 1))
  (dSeq (dIfS (dTst (dOp (rIsN id) (dVar 1) (dC .non)))
  (dRet (dC (.str "word")))
  dNext)
  (dSeq (dIfS (dTst (dOp rEqv (dVar 1) (dC (.str "tick"))))
  (dRet (dIf (dTru (dCall sp_is_amount (dCons (dOp rIx (dVar 0) (dC (.int 1))) dNil))) (dC .non) (dC (.str "number"))))
  dNext)
  (dSeq (dIfS (dTst (dOp (rInn id) (dVar 1) (dC (.tup [(.str "some"), (.str "loop")]))))
  (dSeq (dIfS (dOr (dNot (dTru (dCall sp_is_number (dCons (dOp rIx (dVar 0) (dC (.int 1))) dNil)))) (dOr (dNot (dTru (dCall sp_is_number (dCons (dOp rIx (dVar 0) (dC (.int 2))) dNil)))) (dTst (dOp rGt (dOp rIx (dVar 0) (dC (.int 1))) (dOp rIx (dVar 0) (dC (.int 2)))))))
  (dRet (dC (.str "bounds")))
  dNext)
  (dRet (dIf (dTru (dIsi "bool" (dOp rIx (dVar 0) (dC (.int 3))))) (dC .non) (dC (.str "told")))))
  dNext)
  (dSeq (dIfS (dTst (dOp rEqv (dVar 1) (dC (.str "beside"))))
  (dRet (dC .non))
  dNext)
  (dSeq (dIfS (dOr (dNot (dTru (dIsi "tuple" (dOp rIx (dVar 0) (dC (.int 1)))))) (dAnd (dTst (dOp rEqv (dVar 1) (dC (.str "either")))) (dTst (dOp rEqv (dCB rLen (dCons (dOp rIx (dVar 0) (dC (.int 1))) dNil)) (dC (.int 0))))))
  (dRet (dC (.str "works")))
  dNext)
  (dRet (dC .non))))))))

def r_inner_pairs (sp_inner_works : DSp) : DTS :=
  (dRet (dFrz (dLc (iEnL (dCall sp_inner_works (dCons (dVar 1) dNil))) (.tup [2, 3]) dYes (dTup (dCons (dTup (dStar (dVar 0) (dCons (dVar 2) dNil))) (dCons (dVar 3) dNil))) [2, 3])))

def r_work_fault (sp_inner_pairs : DSp) (sp_form_fault : DSp) : DTS :=
  (dSeq (dAsg (dLst (dCons (dTup (dCons (dTup dNil) (dCons (dVar 0) dNil))) dNil)) (gNm 1))
  (dSeq (dWhile (dTst (dOp rGt (dCB rLen (dCons (dVar 1) dNil)) (dC (.int 0))))
  (dSeq (dAsg (dMt mPop (dVar 1) dNil) (gTp 2 (gsCons (gNm 2) (gsCons (gNm 3) gsNil))))
  (dSeq (dAsg (dCall sp_form_fault (dCons (dVar 3) dNil)) (gNm 4))
  (dSeq (dIfS (dTst (dOp (rIsN not) (dVar 4) (dC .non)))
  (dRet (dTup (dCons (dVar 4) (dCons (dVar 2) dNil))))
  dNext)
  (dDrop (dMt mExtend (dVar 1) (dCons (dFrz (dRev (dCall sp_inner_pairs (dCons (dVar 2) (dCons (dVar 3) dNil))))) dNil)))))))
  (dRet (dC .non))))

def r_is_work (sp_work_fault : DSp) : DTS :=
  (dRet (dOp (rIsN id) (dCall sp_work_fault (dCons (dVar 0) dNil)) (dC .non)))

def r_all_pairs (sp_inner_pairs : DSp) : DTS :=
  (dSeq (dAsg (dLst dNil) (gNm 1))
  (dSeq (dAsg (dLst (dCons (dTup (dCons (dTup dNil) (dCons (dVar 0) dNil))) dNil)) (gNm 2))
  (dSeq (dWhile (dTst (dOp rGt (dCB rLen (dCons (dVar 2) dNil)) (dC (.int 0))))
  (dSeq (dAsg (dMt mPop (dVar 2) dNil) (gTp 2 (gsCons (gNm 3) (gsCons (gNm 4) gsNil))))
  (dSeq (dDrop (dMt mAppend (dVar 1) (dCons (dTup (dCons (dVar 3) (dCons (dVar 4) dNil))) dNil)))
  (dDrop (dMt mExtend (dVar 2) (dCons (dFrz (dRev (dCall sp_inner_pairs (dCons (dVar 3) (dCons (dVar 4) dNil))))) dNil))))))
  (dRet (dFrz (dVar 1))))))

def r_put_inner : DTS :=
  (dSeq (dAsg (dOp rIx (dVar 0) (dC (.int 0))) (gNm 3))
  (dSeq (dIfS (dTst (dOp rEqv (dVar 3) (dC (.str "loop"))))
  (dRet (dTup (dStar (dSl (dVar 0) dNoP (dP (dC (.int 4)))) (dCons (dVar 2) dNil))))
  dNext)
  (dSeq (dIfS (dTst (dOp rEqv (dVar 3) (dC (.str "beside"))))
  (dRet (dIf (dTst (dOp rEqv (dVar 1) (dC (.int 0)))) (dTup (dCons (dVar 3) (dCons (dVar 2) (dCons (dOp rIx (dVar 0) (dC (.int 2))) dNil)))) (dTup (dCons (dVar 3) (dCons (dOp rIx (dVar 0) (dC (.int 1))) (dCons (dVar 2) dNil))))))
  dNext)
  (dRet (dTup (dCons (dVar 3) (dCons (dTup (dStar (dSl (dOp rIx (dVar 0) (dC (.int 1))) dNoP (dP (dVar 1))) (dCons (dVar 2) (dStar (dSl (dOp rIx (dVar 0) (dC (.int 1))) (dP (dOp rAdd (dVar 1) (dC (.int 1)))) dNoP) dNil)))) dNil)))))))

def r_put_along (sp_put_inner : DSp) : DTS :=
  (dSeq (dFor (iZpM (dCons (dFrz (dRev (dVar 0))) (dCons (dRev (dVar 1)) dNil))) (gTp 2 (gsCons (gNm 3) (gsCons (gNm 4) gsNil)))
  (dAsg (dCall sp_put_inner (dCons (dVar 3) (dCons (dVar 4) (dCons (dVar 2) dNil)))) (gNm 2)))
  (dRet (dVar 2)))

def r_parts_of (sp_all_pairs : DSp) : DTS :=
  (dRet (dCB rTupC (dCons (dCall sp_all_pairs (dCons (dVar 0) dNil)) dNil)))

def r_size_of (sp_all_pairs : DSp) : DTS :=
  (dRet (dCB rLen (dCons (dCall sp_all_pairs (dCons (dVar 0) dNil)) dNil)))

def r_depth_of (sp_all_pairs : DSp) : DTS :=
  (dRet (dOp rAdd (dCB rMaxC (dCons (dFrz (dLc (iSq (dCall sp_all_pairs (dCons (dVar 0) dNil))) (.tup [1, 2]) dYes (dCB rLen (dCons (dVar 1) dNil)) [1, 2])) dNil)) (dC (.int 1))))

def r_law_feed : DTS :=
  (dRet (dDisp [((dC (.str "cells")), (dFrz (dCB rLstC (dCons (dFrz (dSl (dVar 0) dNoP (dP (dC (.int 63))))) dNil)))), ((dC (.str "at")), (dC (.int 0))), ((dC (.str "left")), (dC (.int 0))), ((dC (.str "count")), (dC (.int 0)))]))

def r_law_draw : DTS :=
  (dSeq (dAsg (dOp rAdd (dDGet (dVar 0) (dC (.str "count"))) (dC (.int 1))) (gSb (dVar 0) (dC (.str "count")) sDct))
  (dSeq (dIfS (dTst (dOp rGt (dDGet (dVar 0) (dC (.str "left"))) (dC (.int 0))))
  (dSeq (dAsg (dOp rMod (dCB rIntC (dCons (dDGet (dVar 0) (dC (.str "left"))) dNil)) (dVar 1)) (gNm 2))
  (dSeq (dAsg (dOp rFdiv (dDGet (dVar 0) (dC (.str "left"))) (dVar 1)) (gSb (dVar 0) (dC (.str "left")) sDct))
  (dRet (dVar 2))))
  dNext)
  (dSeq (dAsg (dDGet (dVar 0) (dC (.str "at"))) (gNm 3))
  (dSeq (dAsg (dOp rAdd (dVar 3) (dC (.int 1))) (gSb (dVar 0) (dC (.str "at")) sDct))
  (dSeq (dAsg (dIf (dTst (dOp rNev (dDGet (dVar 0) (dC (.str "cells"))) (dFrz (dLst dNil)))) (dOp rIx (dDGet (dVar 0) (dC (.str "cells"))) (dOp rMod (dCB rIntC (dCons (dVar 3) dNil)) (dCB rLen (dCons (dDGet (dVar 0) (dC (.str "cells"))) dNil)))) (dC (.int 53))) (gNm 4))
  (dSeq (dIfS (dAnd (dTst (dOp rGe (dVar 4) (dOp rPow (dC (.int 10)) (dC (.int 18))))) (dTst (dOp rLt (dVar 3) (dCB rLen (dCons (dDGet (dVar 0) (dC (.str "cells"))) dNil)))))
  (dSeq (dAsg (dOp rFdiv (dVar 4) (dVar 1)) (gSb (dVar 0) (dC (.str "left")) sDct))
  (dRet (dOp rMod (dCB rIntC (dCons (dVar 4) dNil)) (dVar 1))))
  dNext)
  (dSeq (dAsg (dOp rMod (dCB rIntC (dCons (dOp rAdd (dOp rAdd (dOp rMod (dCB rIntC (dCons (dVar 4) dNil)) (dC (.int 1000000487))) (dOp rMul (dC (.int 240007)) (dDGet (dVar 0) (dC (.str "count"))))) (dC (.int 103))) dNil)) (dC (.int 2147482937))) (gNm 5))
  (dSeq (dAsg (dOp rMod (dCB rIntC (dCons (dOp rAdd (dOp rAdd (dOp rMul (dVar 5) (dVar 5)) (dOp rMul (dC (.int 5300003)) (dDGet (dVar 0) (dC (.str "count"))))) (dC (.int 61))) dNil)) (dC (.int 2147482921))) (gNm 5))
  (dRet (dOp rMod (dCB rIntC (dCons (dOp rFdiv (dOp rMod (dCB rIntC (dCons (dOp rAdd (dOp rMul (dVar 5) (dVar 5)) (dOp rMul (dC (.int 107)) (dVar 5))) dNil)) (dC (.int 2147482859))) (dC (.int 16))) dNil)) (dVar 1)))))))))))

def r_law_subs : DTS :=
  (dSeq (dIfS (dTst (dOp (rInn id) (dOp rIx (dVar 0) (dC (.int 0))) (dTup (dCons (dC (.str "row")) (dCons (dC (.str "either")) dNil)))))
  (dRet (dCB rLstC (dCons (dOp rIx (dVar 0) (dC (.int 1))) dNil)))
  dNext)
  (dSeq (dIfS (dTst (dOp rEqv (dOp rIx (dVar 0) (dC (.int 0))) (dC (.str "beside"))))
  (dRet (dLst (dCons (dOp rIx (dVar 0) (dC (.int 1))) (dCons (dOp rIx (dVar 0) (dC (.int 2))) dNil))))
  dNext)
  (dRet (dIf (dTst (dOp rEqv (dOp rIx (dVar 0) (dC (.int 0))) (dC (.str "loop")))) (dLst (dCons (dOp rIx (dVar 0) (dC (.int 4))) dNil)) (dLst dNil)))))

def r_law_bounds (sp_law_draw : DSp) : DTS :=
  (dSeq (dAsg (dOp rIx (dFrz (dLst (dCons (dC (.int 0)) (dCons (dC (.int 1)) (dCons (dC (.int 1)) (dCons (dC (.int 2)) (dCons (dC (.int 5)) dNil))))))) (dCall sp_law_draw (dCons (dVar 0) (dCons (dC (.int 5)) dNil)))) (gNm 1))
  (dRet (dTup (dCons (dVar 1) (dCons (dOp rAdd (dVar 1) (dOp rIx (dFrz (dLst (dCons (dC (.int 0)) (dCons (dC (.int 1)) (dCons (dC (.int 2)) (dCons (dC (.int 7)) dNil)))))) (dCall sp_law_draw (dCons (dVar 0) (dCons (dC (.int 4)) dNil))))) (dCons (dOp rEqv (dCall sp_law_draw (dCons (dVar 0) (dCons (dC (.int 2)) dNil))) (dC (.int 0))) dNil))))))

def r_law_free_work (sp_law_free_work : DSp) (sp_law_draw : DSp) (sp_law_bounds : DSp) : DTS :=
  (dSeq (dAsg (dIf (dTst (dOp rGt (dVar 1) (dC (.int 0)))) (dCall sp_law_draw (dCons (dVar 0) (dCons (dC (.int 9)) dNil))) (dCall sp_law_draw (dCons (dVar 0) (dCons (dC (.int 4)) dNil)))) (gNm 2))
  (dSeq (dIfS (dTst (dOp rLt (dVar 2) (dC (.int 2))))
  (dRet (dTup (dCons (dC (.str "tick")) (dCons (dOp rAdd (dC (.int 1)) (dOp rIx (dFrz (dLst (dCons (dC (.int 0)) (dCons (dC (.int 1)) (dCons (dC (.int 2)) (dCons (dC (.int 11)) dNil)))))) (dCall sp_law_draw (dCons (dVar 0) (dCons (dC (.int 4)) dNil))))) dNil))))
  dNext)
  (dSeq (dIfS (dTst (dOp rLt (dVar 2) (dC (.int 4))))
  (dRet (dOp rAdd (dTup (dCons (dC (.str "some")) dNil)) (dCall sp_law_bounds (dCons (dVar 0) dNil))))
  dNext)
  (dSeq (dIfS (dTst (dOp rLt (dVar 2) (dC (.int 6))))
  (dRet (dOp rAdd (dOp rAdd (dTup (dCons (dC (.str "loop")) dNil)) (dCall sp_law_bounds (dCons (dVar 0) dNil))) (dTup (dCons (dCall sp_law_free_work (dCons (dVar 0) (dCons (dOp rSub (dVar 1) (dC (.int 1))) dNil))) dNil))))
  dNext)
  (dSeq (dIfS (dTst (dOp rEqv (dVar 2) (dC (.int 8))))
  (dRet (dTup (dCons (dC (.str "beside")) (dCons (dCall sp_law_free_work (dCons (dVar 0) (dCons (dOp rSub (dVar 1) (dC (.int 1))) dNil))) (dCons (dCall sp_law_free_work (dCons (dVar 0) (dCons (dOp rSub (dVar 1) (dC (.int 1))) dNil))) dNil)))))
  dNext)
  (dSeq (dAsg (dIf (dTst (dOp rEqv (dVar 2) (dC (.int 6)))) (dCall sp_law_draw (dCons (dVar 0) (dCons (dC (.int 4)) dNil))) (dOp rAdd (dC (.int 1)) (dCall sp_law_draw (dCons (dVar 0) (dCons (dC (.int 3)) dNil))))) (gNm 3))
  (dSeq (dAsg (dCB rTupC (dCons (dFrz (dLc (iRg1 (dCons (dVar 3) dNil)) (.one 5) dYes (dCall sp_law_free_work (dCons (dVar 0) (dCons (dOp rSub (dVar 1) (dC (.int 1))) dNil))) [5])) dNil)) (gNm 4))
  (dRet (dTup (dCons (dOp rIx (dFrz (dLst (dCons (dC (.str "row")) (dCons (dC (.str "either")) dNil)))) (dOp rSub (dVar 2) (dC (.int 6)))) (dCons (dVar 4) dNil)))))))))))

def r_law_second : DTS :=
  (dSeq (dAsg (dTup (dCons (dC (.str "some")) (dCons (dC (.int 0)) (dCons (dC (.int 4)) (dCons (dC (.bl true)) dNil))))) (gNm 0))
  (dSeq (dAsg (dTup (dCons (dC (.str "loop")) (dCons (dC (.int 2)) (dCons (dC (.int 2)) (dCons (dC (.bl false)) (dCons (dTup (dCons (dC (.str "some")) (dCons (dC (.int 1)) (dCons (dC (.int 1)) (dCons (dC (.bl false)) dNil))))) dNil)))))) (gNm 1))
  (dSeq (dAsg (dTup (dCons (dC (.str "either")) (dCons (dTup (dCons (dTup (dCons (dC (.str "loop")) (dCons (dC (.int 0)) (dCons (dC (.int 3)) (dCons (dC (.bl true)) (dCons (dTup (dCons (dC (.str "beside")) (dCons (dTup (dCons (dC (.str "tick")) (dCons (dC (.int 1)) dNil))) (dCons (dTup (dCons (dC (.str "row")) (dCons (dTup dNil) dNil))) dNil)))) dNil)))))) (dCons (dTup (dCons (dC (.str "tick")) (dCons (dC (.int 7)) dNil))) (dCons (dVar 0) dNil)))) dNil))) (gNm 2))
  (dRet (dTup (dCons (dC (.str "beside")) (dCons (dTup (dCons (dC (.str "row")) (dCons (dTup (dCons (dTup (dCons (dC (.str "tick")) (dCons (dC (.int 1)) dNil))) (dCons (dTup (dCons (dC (.str "row")) (dCons (dTup dNil) dNil))) (dCons (dVar 0) dNil)))) dNil))) (dCons (dTup (dCons (dC (.str "either")) (dCons (dTup (dCons (dVar 1) (dCons (dTup (dCons (dC (.str "tick")) (dCons (dC (.int 12)) dNil))) (dCons (dVar 2) dNil)))) dNil))) dNil))))))))

end K03

namespace K03
open PySem L2 Dl 
local macro_rules | `(tactic| walk_at "ds") => `(tactic| repeat' with_reducible first
  | fail "stuck")
def innW : Wk → List Wk
  | .lop _ _ _ w => [w]
  | .eit ws => ws
  | .row ws => ws
  | .bes a b => [a, b]
  | _ => []
abbrev Pth := List Nat
mutual
/-- the parts in order, a work ahead of its own -/
def preW (p : Pth) : Wk → List (Pth × Wk)
  | .tick n => [(p, .tick n)]
  | .sme a b t => [(p, .sme a b t)]
  | .lop a b t w => (p, .lop a b t w) :: preW (p ++ [0]) w
  | .eit ws => (p, .eit ws) :: preWs p 0 ws
  | .row ws => (p, .row ws) :: preWs p 0 ws
  | .bes a b => (p, .bes a b) :: (preW (p ++ [0]) a ++ preW (p ++ [1]) b)
def preWs (p : Pth) (k : Nat) : List Wk → List (Pth × Wk)
  | [] => []
  | w :: ws => preW (p ++ [k]) w ++ preWs p (k + 1) ws
end
theorem preW_eq (p : Pth) (w : Wk) : preW p w = (p, w) :: preWs p 0 (innW w) := by
  cases w <;> simp [preW, innW, preWs]
def prsW (p : Pth) (w : Wk) : List (Pth × Wk) := (innW w).zipIdx.map fun q => (p ++ [q.2], q.1)
theorem preWs_flat (p : Pth) : ∀ (ws : List Wk) (k : Nat), preWs p k ws = ((ws.zipIdx k).map fun q => (p ++ [q.2], q.1)).flatMap fun q => preW q.1 q.2
  | [], k => by simp [preWs]
  | w :: ws, k => by
    rw [preWs, preWs_flat p ws (k + 1), List.zipIdx_cons, List.map_cons, List.flatMap_cons]
def lotW (W : List (Pth × Wk)) : List (Pth × Wk) := W.reverse.flatMap fun q => preW q.1 q.2
theorem lotW_pop (V : List (Pth × Wk)) (p : Pth) (u : Wk) : lotW (V ++ [(p, u)]) = (p, u) :: lotW (V ++ (prsW p u).reverse) := by
  unfold lotW
  rw [List.reverse_append, List.reverse_append, List.reverse_reverse, List.reverse_singleton, List.flatMap_append, List.flatMap_append, List.flatMap_singleton, preW_eq, List.cons_append, preWs_flat]
  rfl
theorem lotW_one (w : Wk) : lotW [([], w)] = preW [] w := by simp [lotW]
def alongW : Wk → Pth → Option (List Wk)
  | w, [] => some [w]
  | w, k :: p => match (innW w)[k]? with
    | some u => (alongW u p).map (w :: ·)
    | none => none
def setW : Wk → Nat → Wk → Wk
  | .lop a b t _, _, x => .lop a b t x
  | .bes a b, 0, x => .bes x b
  | .bes a b, _, x => .bes a x
  | .row ws, k, x => .row (ws.set k x)
  | .eit ws, k, x => .eit (ws.set k x)
  | w, _, _ => w
def putW (late : Wk) : Wk → Pth → Wk
  | _, [] => late
  | w, k :: p => match (innW w)[k]? with
    | some u => setW w k (putW late u p)
    | none => w
mutual
theorem pre_along : ∀ (w : Wk) (p : Pth) (q : Pth × Wk), q ∈ preW p w → ∃ r l, q.1 = p ++ r ∧ alongW w r = some l ∧ l.getLast? = some q.2 ∧ l.length = r.length + 1
  | .tick n, p, q, h => by
    rw [preW, List.mem_singleton] at h; subst h
    exact ⟨[], [.tick n], by simp, by simp [alongW], by simp, rfl⟩
  | .sme a b t, p, q, h => by
    rw [preW, List.mem_singleton] at h; subst h
    exact ⟨[], [.sme a b t], by simp, by simp [alongW], by simp, rfl⟩
  | .lop a b t w, p, q, h => by
    rw [preW, List.mem_cons] at h
    rcases h with rfl | h
    · exact ⟨[], [.lop a b t w], by simp, by simp [alongW], by simp, rfl⟩
    · obtain ⟨r, l, e1, e2, e3, e4⟩ := pre_along w (p ++ [0]) q h
      refine ⟨0 :: r, .lop a b t w :: l, by rw [e1]; simp, by simp [alongW, innW, e2], ?_, by simp [e4]⟩
      rw [List.getLast?_cons, e3]; rfl
  | .eit ws, p, q, h => by
    rw [preW, List.mem_cons] at h
    rcases h with rfl | h
    · exact ⟨[], [.eit ws], by simp, by simp [alongW], by simp, rfl⟩
    · obtain ⟨j, u, r, l, hj, e1, e2, e3, e4⟩ := pres_along ws p 0 q h
      refine ⟨j :: r, .eit ws :: l, by rw [e1]; simp, ?_, ?_, by simp [e4]⟩
      · simp [alongW, innW, hj, e2]
      · rw [List.getLast?_cons, e3]; rfl
  | .row ws, p, q, h => by
    rw [preW, List.mem_cons] at h
    rcases h with rfl | h
    · exact ⟨[], [.row ws], by simp, by simp [alongW], by simp, rfl⟩
    · obtain ⟨j, u, r, l, hj, e1, e2, e3, e4⟩ := pres_along ws p 0 q h
      refine ⟨j :: r, .row ws :: l, by rw [e1]; simp, ?_, ?_, by simp [e4]⟩
      · simp [alongW, innW, hj, e2]
      · rw [List.getLast?_cons, e3]; rfl
  | .bes a b, p, q, h => by
    rw [preW, List.mem_cons, List.mem_append] at h
    rcases h with rfl | h | h
    · exact ⟨[], [.bes a b], by simp, by simp [alongW], by simp, rfl⟩
    · obtain ⟨r, l, e1, e2, e3, e4⟩ := pre_along a (p ++ [0]) q h
      refine ⟨0 :: r, .bes a b :: l, by rw [e1]; simp, by simp [alongW, innW, e2], ?_, by simp [e4]⟩
      rw [List.getLast?_cons, e3]; rfl
    · obtain ⟨r, l, e1, e2, e3, e4⟩ := pre_along b (p ++ [1]) q h
      refine ⟨1 :: r, .bes a b :: l, by rw [e1]; simp, by simp [alongW, innW, e2], ?_, by simp [e4]⟩
      rw [List.getLast?_cons, e3]; rfl
theorem pres_along : ∀ (ws : List Wk) (p : Pth) (k : Nat) (q : Pth × Wk), q ∈ preWs p k ws → ∃ j u r l, ws[j]? = some u ∧ q.1 = p ++ (k + j) :: r ∧ alongW u r = some l ∧ l.getLast? = some q.2 ∧ l.length = r.length + 1
  | [], p, k, q, h => by rw [preWs] at h; cases h
  | w :: ws, p, k, q, h => by
    rw [preWs, List.mem_append] at h
    rcases h with h | h
    · obtain ⟨r, l, e1, e2, e3, e4⟩ := pre_along w (p ++ [k]) q h
      exact ⟨0, w, r, l, rfl, by rw [e1]; simp, e2, e3, e4⟩
    · obtain ⟨j, u, r, l, hj, e1, e2, e3, e4⟩ := pres_along ws p (k + 1) q h
      exact ⟨j + 1, u, r, l, by simpa using hj, by rw [e1]; congr 2; omega, e2, e3, e4⟩
end
end K03

namespace K03
open PySem L2 Dl 
local macro_rules | `(tactic| walk_at "ds") => `(tactic| repeat' with_reducible first
  | refine iVar (by with_unfolding_all rfl) ?_
  | refine iCons ?_
  | refine iNil ?_
  | refine iC ?_
  | refine iOp ?_
  | refine iSeq ?_
  | refine iAsg ?_
  | refine iGNm ?_
  | refine iFrz ?_
  | refine iTst ?_
  | refine iIfS ?_
  | refine iRet ?_
  | refine iLst ?_
  | refine iNext ?_
  | refine iDGet ?_
  | refine dctP_i (by assumption) ?_
  | refine dctP_i updG_same ?_
  | refine iGSb ?_
  | refine lenOk (by with_unfolding_all rfl) ?_
  | refine frzEnd ?_
  | refine lstC_l ?_
  | refine iAnd ?_
  | refine iIf ?_
  | refine ifT ?_
  | refine ifF ?_
  | refine iCB ?_
  | refine iSl ?_
  | refine iP ?_
  | refine iNoP ?_
  | refine rIx_i (by with_unfolding_all rfl) (by with_unfolding_all rfl) ?_
  | refine rIx_i (by with_unfolding_all rfl) atI_0 ?_
  | refine add_ii ?_
  | refine int0 ?_
  | refine len_l ?_
  | refine intC_i ?_
  | refine keyP_s ?_
  | refine iPsC ?_
  | refine iPsN ?_
  | fail "stuck")
def feedKv (cs : List Int) (at_ lf cn : Int) : List (Key × D) := [(.inr "cells", .lst (cs.map D.int)), (.inr "at", .int at_), (.inr "left", .int lf), (.inr "count", .int cn)]
def FeedOk (G : GH) (a : Addr) : Prop := ∃ cs at_ lf cn, G a = some (.dct (feedKv cs at_ lf cn))
def KeepX (a : Addr) (G G' : GH) : Prop := ∀ b o, b ≠ a → G b = some o → G' b = some o
theorem KeepX.trans {a : Addr} {G G1 G2 : GH} (h : KeepX a G G1) (k : KeepX a G1 G2) : KeepX a G G2 := fun b o n e => k b o n (h b o n e)
theorem KeepX.upd {a : Addr} {G : GH} {o : DO} : KeepX a G (updG G a o) := fun b u n e => by rw [updG_ne n]; exact e
theorem KeepX.of {a : Addr} {G G' : GH} (h : Grow G G') : KeepX a G G' := fun b o _ e => h b o e
theorem FeedOk.grow {a : Addr} {G G' : GH} (h : FeedOk G a) (k : Grow G G') : FeedOk G' a := by
  obtain ⟨c, x, y, z, e⟩ := h
  exact ⟨c, x, y, z, k _ _ e⟩
theorem FeedOk.ne {a p : Addr} {G : GH} (h : FeedOk G a) (hp : G p = none) : a ≠ p := by
  rintro rfl
  obtain ⟨_, _, _, _, e⟩ := h
  rw [hp] at e; cases e
theorem g_cells {cs : List Int} {x y z : Int} : getK (feedKv cs x y z) (.inr "cells") = some (.lst (cs.map D.int)) := by simp [getK, feedKv]
theorem g_at {cs : List Int} {x y z : Int} : getK (feedKv cs x y z) (.inr "at") = some (.int x) := by simp [getK, feedKv]
theorem g_left {cs : List Int} {x y z : Int} : getK (feedKv cs x y z) (.inr "left") = some (.int y) := by simp [getK, feedKv]
theorem g_count {cs : List Int} {x y z : Int} : getK (feedKv cs x y z) (.inr "count") = some (.int z) := by simp [getK, feedKv]
theorem p_at {cs : List Int} {x y z v : Int} : putD (feedKv cs x y z) (.inr "at") (.int v) = feedKv cs v y z := by simp [putD, feedKv]
theorem p_left {cs : List Int} {x y z v : Int} : putD (feedKv cs x y z) (.inr "left") (.int v) = feedKv cs x v z := by simp [putD, feedKv]
theorem p_count {cs : List Int} {x y z v : Int} : putD (feedKv cs x y z) (.inr "count") (.int v) = feedKv cs x y v := by simp [putD, feedKv]
theorem sDct_i {a : Addr} {kvs : List (Key × D)} {x : Str} {d : D} {G : GH} {Q : GH → Prop} (e : G a = some (.dct kvs)) (z : kvs.length < sizeLine) (h : Q (updG G a (.dct (putD kvs (.inr x) d)))) : sDct (.ref a) (.str x) d G Q := dctP_i e ⟨z, h⟩
theorem cell_at {cs : List Int} (h : cs ≠ []) (k : Int) : ∃ c : Int, atI (cs.map D.int) (k % (cs.length : Int)) = some (.int c) := by
  have hl : 0 < cs.length := List.length_pos_iff.mpr h
  have h1 := Int.emod_nonneg k (show (cs.length : Int) ≠ 0 by omega)
  have h2 := Int.emod_lt_of_pos k (show (0 : Int) < cs.length by omega)
  obtain ⟨j, hj⟩ : ∃ j : Nat, k % (cs.length : Int) = j := ⟨(k % (cs.length : Int)).toNat, by omega⟩
  rw [hj]
  have hj2 : j < cs.length := by omega
  exact ⟨cs[j], Dl.atI_nat (by simp [hj2])⟩
theorem okCells (cs : List Int) : okD (.lst (cs.map D.int)) := by
  constructor
  · rw [pureD]
    induction cs with
    | nil => simp [pureDs]
    | cons x xs ih => simp [pureDs, pureD, ih]
  · rw [depD]
    have : depDs (cs.map D.int) ≤ 0 := depDs_le (by intro d hd; obtain ⟨i, -, rfl⟩ := List.mem_map.mp hd; simp [depD])
    omega
def spDraw : DSp := fun ds G Q _ => ∃ a m, ds = [.ref a, .int m] ∧ 0 < m ∧ m < 1073741824 ∧ FeedOk G a ∧ ∀ (r : Int) G', 0 ≤ r → r < m → FeedOk G' a → KeepX a G G' → Q (.int r) G'
theorem mod64 (u : Int) {k : Int} (h1 : 0 < k) (h2 : k < 4294967296) (j : Int) : CMul (u % k) j := by
  have h3 := Int.emod_nonneg u (show k ≠ 0 by omega)
  have h4 := Int.emod_lt_of_pos u h1
  refine .inl ⟨?_, ?_⟩
  · have : (-2 ^ 64 : Int) < 0 := by decide
    omega
  · have : (2 : Int) ^ 64 = 18446744073709551616 := by decide
    omega
theorem law_draw_rd : ∀ ds G Q E, spDraw ds G Q E → r_law_draw { nx := fun _ G' => Q .non G', rt := Q } (startD 6 ds) G := by
  rintro ds G Q E ⟨a, m, rfl, hm, hm2, ⟨cs, x, y, z, e⟩, hq⟩
  unfold r_law_draw
  have go : ∀ (v : Int) (c : List Int) (x y z : Int), Q (.int (v % m)) (updG G a (.dct (feedKv c x y z))) := fun v c x y z =>
    hq _ _ (Int.emod_nonneg _ (by omega)) (Int.emod_lt_of_pos _ hm) ⟨c, x, y, z, updG_same⟩ KeepX.upd
  walk_at "ds"
  refine getK_i g_count ?_
  walk_at "ds"
  refine sDct_i e (by show 4 < sizeLine; decide) ?_
  rw [p_count]
  walk_at "ds"
  refine getK_i g_left ?_
  walk_at "ds"
  refine ifD (fun h => ?_) (fun h => ?_)
  · walk_at "ds"
    refine getK_i g_left ?_
    walk_at "ds"
    refine int2 hm ?_
    walk_at "ds"
    refine getK_i g_left ?_
    walk_at "ds"
    refine int2 ⟨hm, hm2⟩ ?_
    walk_at "ds"
    refine sDct_i updG_same (by show 4 < sizeLine; decide) ?_
    rw [p_left, updG_updG]
    walk_at "ds"
    exact go _ _ _ _ _
  · walk_at "ds"
    refine getK_i g_at ?_
    walk_at "ds"
    refine sDct_i updG_same (by show 4 < sizeLine; decide) ?_
    rw [p_at, updG_updG]
    dsimp only
    refine seqC (fun ρ G2 => ∃ c : Int, ρ = [some (.ref a), some (.int m), none, some (.int x), some (.int c), none] ∧ G2 = updG G a (.dct (feedKv cs (x + 1) y (z + 1)))) ?_ ?_
    · intro K hK
      walk_at "ds"
      refine getK_i g_cells ?_
      walk_at "ds"
      refine ne_ll (okCells cs) (okCells []) ?_
      by_cases hne : cs = []
      · rw [hne, show eqvD (.lst (([] : List Int).map D.int)) (.lst []) = true from by decide +kernel]
        refine ifF ?_
        walk_at "ds"
        exact hK _ _ ⟨53, rfl, by rw [hne]⟩
      · rw [show eqvD (.lst (cs.map D.int)) (.lst []) = false from by cases cs with
          | nil => exact absurd rfl hne
          | cons => simp [eqvD, eqvDs]]
        refine ifT ?_
        walk_at "ds"
        refine getK_i g_cells ?_
        walk_at "ds"
        refine getK_i g_cells ?_
        walk_at "ds"
        have hl : 0 < cs.length := List.length_pos_iff.mpr hne
        refine int2 (by rw [List.length_map]; omega) ?_
        rw [List.length_map]
        obtain ⟨c, hc⟩ := cell_at hne x
        refine rIx_i rfl hc ?_
        walk_at "ds"
        exact hK _ _ ⟨c, rfl, rfl⟩
    rintro ρ G2 ⟨c, rfl, rfl⟩
    have tail : (dSeq (dAsg (dOp rMod (dCB rIntC (dCons (dOp rAdd (dOp rAdd (dOp rMod (dCB rIntC (dCons (dVar 4) dNil)) (dC (.int 1000000487))) (dOp rMul (dC (.int 240007)) (dDGet (dVar 0) (dC (.str "count"))))) (dC (.int 103))) dNil)) (dC (.int 2147482937))) (gNm 5))
        (dSeq (dAsg (dOp rMod (dCB rIntC (dCons (dOp rAdd (dOp rAdd (dOp rMul (dVar 5) (dVar 5)) (dOp rMul (dC (.int 5300003)) (dDGet (dVar 0) (dC (.str "count"))))) (dC (.int 61))) dNil)) (dC (.int 2147482921))) (gNm 5))
        (dRet (dOp rMod (dCB rIntC (dCons (dOp rFdiv (dOp rMod (dCB rIntC (dCons (dOp rAdd (dOp rMul (dVar 5) (dVar 5)) (dOp rMul (dC (.int 107)) (dVar 5))) dNil)) (dC (.int 2147482859))) (dC (.int 16))) dNil)) (dVar 1))))) { nx := fun _ G' => Q .non G', rt := Q } [some (.ref a), some (.int m), none, some (.int x), some (.int c), none] (updG G a (.dct (feedKv cs (x + 1) y (z + 1)))) := by
      walk_at "ds"
      refine int2 (by decide) ?_
      walk_at "ds"
      refine getK_i g_count ?_
      walk_at "ds"
      refine mul_ii (.inl ⟨by decide, by decide⟩) ?_
      walk_at "ds"
      refine int2 (by decide) ?_
      walk_at "ds"
      refine mul_ii (mod64 _ (by decide) (by decide) _) ?_
      walk_at "ds"
      refine getK_i g_count ?_
      walk_at "ds"
      refine mul_ii (.inl ⟨by decide, by decide⟩) ?_
      walk_at "ds"
      refine int2 (by decide) ?_
      walk_at "ds"
      refine mul_ii (mod64 _ (by decide) (by decide) _) ?_
      walk_at "ds"
      refine mul_ii (.inl ⟨by decide, by decide⟩) ?_
      walk_at "ds"
      refine int2 (by decide) ?_
      walk_at "ds"
      refine int2 ⟨by decide, by decide⟩ ?_
      walk_at "ds"
      refine int2 hm ?_
      exact go _ _ _ _ _
    walk_at "ds"
    refine int2 ⟨by decide, by decide, by decide⟩ ?_
    walk_at "ds"
    refine ifD (fun h1 => ?_) (fun h1 => ?_)
    · walk_at "ds"
      refine getK_i g_cells ?_
      walk_at "ds"
      refine ifD (fun h2 => ?_) (fun h2 => ?_)
      · walk_at "ds"
        refine int2 ⟨hm, hm2⟩ ?_
        walk_at "ds"
        refine sDct_i updG_same (by show 4 < sizeLine; decide) ?_
        rw [p_left, updG_updG]
        walk_at "ds"
        refine int2 hm ?_
        exact go _ _ _ _ _
      · first | exact tail | exact ifF tail | exact ifF (ifF tail)
    · first | exact tail | exact ifF tail | exact ifF (ifF tail)
def spFeed : DSp := fun ds G Q _ => ∃ ns, ds = [.scr ns] ∧ ∀ p G', Grow G G' → FeedOk G' p → G p = none → Q (.ref p) G'
theorem law_feed_rd : ∀ ds G Q E, spFeed ds G Q E → r_law_feed { nx := fun _ G' => Q .non G', rt := Q } (startD 1 ds) G := by
  rintro ds G Q E ⟨ns, rfl, hq⟩
  unfold r_law_feed
  walk_at "ds"
  refine iDisp fun p hp => ?_
  walk_at "ds"
  refine slS ?_
  walk_at "ds"
  refine dispEnd updG_same (by with_unfolding_all rfl) (by rfl) ?_
  refine hq p _ (Grow.upd2 hp (Grow.upd hp)) ⟨(ns.drop 0).take (min 63 ns.length), 0, 0, 0, ?_⟩ hp
  rw [updG_same]
  simp [mergeD, putD, feedKv, cutD, HT.sIx, List.map_take]
end K03

namespace K03
open PySem L2 Dl 
local macro_rules | `(tactic| walk_at "ds") => `(tactic| repeat' with_reducible first
  | fail "stuck")
mutual
/-- how many parts -/
def cW : Wk → Nat
  | .tick _ => 1
  | .sme _ _ _ => 1
  | .lop _ _ _ w => 1 + cW w
  | .eit ws => 1 + cWs ws
  | .row ws => 1 + cWs ws
  | .bes a b => 1 + (cW a + cW b)
def cWs : List Wk → Nat
  | [] => 0
  | w :: ws => cW w + cWs ws
end
mutual
/-- how many within one another at most -/
def dW : Wk → Nat
  | .tick _ => 1
  | .sme _ _ _ => 1
  | .lop _ _ _ w => 1 + dW w
  | .eit ws => 1 + dWs ws
  | .row ws => 1 + dWs ws
  | .bes a b => 1 + max (dW a) (dW b)
def dWs : List Wk → Nat
  | [] => 0
  | w :: ws => max (dW w) (dWs ws)
end
theorem cW_in : ∀ w : Wk, cW w = 1 + cWs (innW w)
  | .tick _ => by simp [cW, innW, cWs]
  | .sme _ _ _ => by simp [cW, innW, cWs]
  | .lop _ _ _ w => by simp [cW, innW, cWs]
  | .eit ws => by simp [cW, innW]
  | .row ws => by simp [cW, innW]
  | .bes a b => by simp [cW, innW, cWs]
theorem dW_in : ∀ w : Wk, dW w = 1 + dWs (innW w)
  | .tick _ => by simp [dW, innW, dWs]
  | .sme _ _ _ => by simp [dW, innW, dWs]
  | .lop _ _ _ w => by simp [dW, innW, dWs]
  | .eit ws => by simp [dW, innW]
  | .row ws => by simp [dW, innW]
  | .bes a b => by simp [dW, innW, dWs]
theorem cW_pos (w : Wk) : 1 ≤ cW w := by rw [cW_in]; omega
theorem dW_pos (w : Wk) : 1 ≤ dW w := by rw [dW_in]; omega
theorem cWs_mem : ∀ {ws : List Wk} {u : Wk}, u ∈ ws → cW u ≤ cWs ws
  | [], u, h => nomatch h
  | w :: ws, u, h => by
    rw [cWs]
    rcases List.mem_cons.mp h with rfl | h
    · omega
    · have := cWs_mem h; omega
theorem dWs_mem : ∀ {ws : List Wk} {u : Wk}, u ∈ ws → dW u ≤ dWs ws
  | [], u, h => nomatch h
  | w :: ws, u, h => by
    rw [dWs]
    rcases List.mem_cons.mp h with rfl | h
    · omega
    · have := dWs_mem h; omega
theorem cWs_len : ∀ ws : List Wk, ws.length ≤ cWs ws
  | [] => by simp
  | w :: ws => by have := cWs_len ws; have := cW_pos w; rw [cWs, List.length_cons]; omega
theorem inn_c {w u : Wk} (h : u ∈ innW w) : cW u < cW w := by have := cWs_mem h; rw [cW_in w]; omega
theorem inn_d {w u : Wk} (h : u ∈ innW w) : dW u < dW w := by have := dWs_mem h; rw [dW_in w]; omega
theorem inn_len (w : Wk) : (innW w).length < cW w := by have := cWs_len (innW w); rw [cW_in w]; omega
theorem okWs_mem {B : Int} : ∀ {ws : List Wk} {u : Wk}, okWs B ws → u ∈ ws → okW B u
  | [], u, _, h => nomatch h
  | w :: ws, u, k, h => by
    rw [okWs] at k
    rcases List.mem_cons.mp h with rfl | h
    · exact k.1
    · exact okWs_mem k.2 h
theorem inn_ok {B : Int} {w u : Wk} (k : okW B w) (h : u ∈ innW w) : okW B u := by
  cases w with
  | tick n => cases h
  | sme a b t => cases h
  | lop a b t v => rw [okW] at k; rw [innW, List.mem_singleton] at h; subst h; exact k.2.2.2
  | eit ws => rw [okW] at k; exact okWs_mem k.2 h
  | row ws => rw [okW] at k; exact okWs_mem k h
  | bes a b =>
    rw [okW] at k
    simp only [innW, List.mem_cons, List.not_mem_nil, or_false] at h
    rcases h with rfl | rfl
    · exact k.1
    · exact k.2
mutual
theorem pre_len : ∀ (w : Wk) (p : Pth), (preW p w).length = cW w
  | .tick _, p => by simp [preW, cW]
  | .sme _ _ _, p => by simp [preW, cW]
  | .lop _ _ _ w, p => by simp [preW, cW, pre_len w]; omega
  | .eit ws, p => by simp [preW, cW, pres_len ws]; omega
  | .row ws, p => by simp [preW, cW, pres_len ws]; omega
  | .bes a b, p => by simp [preW, cW, pre_len a, pre_len b]; omega
theorem pres_len : ∀ (ws : List Wk) (p : Pth) (k : Nat), (preWs p k ws).length = cWs ws
  | [], p, k => by simp [preWs, cWs]
  | w :: ws, p, k => by simp [preWs, cWs, pre_len w, pres_len ws]
end
theorem along_ind {P : Wk → Prop} (hP : ∀ w u, P w → u ∈ innW w → P u) : ∀ (r : Pth) (w : Wk) (l : List Wk), P w → alongW w r = some l → ∀ u ∈ l, P u
  | [], w, l, h, e, u, hu => by
    rw [alongW] at e; cases e
    rw [List.mem_singleton] at hu; subst hu; exact h
  | k :: r, w, l, h, e, u, hu => by
    rw [alongW] at e
    split at e
    · rename_i v hv
      obtain ⟨l', e', rfl⟩ := Option.map_eq_some_iff.mp e
      rcases List.mem_cons.mp hu with rfl | hu
      · exact h
      · exact along_ind hP r v l' (hP w v h (List.mem_of_getElem? hv)) e' u hu
    · cases e
theorem pre_ind {P : Wk → Prop} (hP : ∀ w u, P w → u ∈ innW w → P u) {w : Wk} {p : Pth} {q : Pth × Wk} (h : P w) (hq : q ∈ preW p w) : P q.2 := by
  obtain ⟨r, l, e1, e2, e3, e4⟩ := pre_along w p q hq
  exact along_ind hP r w l h e2 _ (List.mem_of_getLast? e3)
theorem along_dep : ∀ (r : Pth) (w : Wk) (l : List Wk), alongW w r = some l → r.length + 1 ≤ dW w
  | [], w, l, e => dW_pos w
  | k :: r, w, l, e => by
    rw [alongW] at e
    split at e
    · rename_i v hv
      obtain ⟨l', e', rfl⟩ := Option.map_eq_some_iff.mp e
      have := along_dep r v l' e'
      have := inn_d (List.mem_of_getElem? hv)
      rw [List.length_cons]; omega
    · cases e
theorem along_len : ∀ (r : Pth) (w : Wk) (l : List Wk), alongW w r = some l → l.length = r.length + 1
  | [], w, l, e => by rw [alongW] at e; cases e; rfl
  | k :: r, w, l, e => by
    rw [alongW] at e
    split at e
    · obtain ⟨l', e', rfl⟩ := Option.map_eq_some_iff.mp e
      rw [List.length_cons, List.length_cons, along_len r _ l' e']
    · cases e
theorem pre_plen {w : Wk} {p : Pth} {q : Pth × Wk} (hq : q ∈ preW p w) : q.1.length + 1 ≤ p.length + dW w := by
  obtain ⟨r, l, e1, e2, e3, e4⟩ := pre_along w p q hq
  have := along_dep r w l e2
  rw [e1, List.length_append]; omega
structure Gw (w : Wk) (n d : Nat) : Prop where
  ok : okW 999 w
  c : cW w ≤ n
  d : dW w ≤ d
theorem Gw.inn {w u : Wk} {n d : Nat} (h : Gw w n d) (hu : u ∈ innW w) : Gw u n d := ⟨inn_ok h.ok hu, by have := inn_c hu; have := h.c; omega, by have := inn_d hu; have := h.d; omega⟩
theorem Gw.up {w : Wk} {n d n' d' : Nat} (h : Gw w n d) (h1 : n ≤ n') (h2 : d ≤ d') : Gw w n' d' := ⟨h.ok, by have := h.c; omega, by have := h.d; omega⟩
theorem Gw.part {w : Wk} {n d : Nat} {p : Pth} {q : Pth × Wk} (h : Gw w n d) (hq : q ∈ preW p w) : Gw q.2 n d := pre_ind (P := fun u => Gw u n d) (fun _ _ h hu => h.inn hu) h hq
theorem pres_at {p : Pth} : ∀ {ws : List Wk} {k j : Nat} {u : Wk}, ws[j]? = some u → ∀ q ∈ preW (p ++ [k + j]) u, q ∈ preWs p k ws
  | [], k, j, u, h => by simp at h
  | w :: ws, k, 0, u, h => by
    simp at h; subst h
    intro q hq
    rw [preWs, List.mem_append]; exact .inl hq
  | w :: ws, k, j + 1, u, h => by
    intro q hq
    rw [preWs, List.mem_append]
    refine .inr (pres_at (k := k + 1) (j := j) (by simpa using h) q ?_)
    rw [show k + 1 + j = k + (j + 1) by omega]; exact hq
theorem along_pre : ∀ (r : Pth) (w : Wk) (p : Pth) (l : List Wk) (u : Wk), alongW w r = some l → l.getLast? = some u → (p ++ r, u) ∈ preW p w
  | [], w, p, l, u, e, e2 => by
    rw [alongW] at e; cases e
    cases e2
    rw [List.append_nil, preW_eq]; exact List.mem_cons_self ..
  | k :: r, w, p, l, u, e, e2 => by
    rw [alongW] at e
    split at e
    · rename_i v hv
      obtain ⟨l', e', rfl⟩ := Option.map_eq_some_iff.mp e
      have hl : l' ≠ [] := by have := along_len r v l' e'; rintro rfl; simp at this
      have e3 : l'.getLast? = some u := by rw [List.getLast?_cons] at e2; obtain ⟨z, hz⟩ : ∃ z, l'.getLast? = some z := ⟨_, List.getLast?_eq_some_getLast hl⟩; rw [hz] at e2 ⊢; simpa using e2
      have := along_pre r v (p ++ [k]) l' u e' e3
      rw [preW_eq]
      refine List.mem_cons_of_mem _ (pres_at (k := 0) (j := k) hv _ ?_)
      rw [Nat.zero_add]
      simpa using this
    · cases e
def ixD (k : Nat) : D := .int (k : Nat)
def pthD (p : Pth) : D := .tup (p.map ixD)
def prD (q : Pth × Wk) : D := .tup [pthD q.1, toD q.2]
mutual
theorem wtW : ∀ w : Wk, wtD (toD w) + 1 ≤ 100 * cW w
  | .tick n => by simp [toD, wtD, wtDs, cW, sl_tick]
  | .sme a b t => by simp [toD, wtD, wtDs, cW, sl_some]
  | .lop a b t w => by have h := wtW w; simp only [toD, wtD, wtDs, cW, sl_loop]; omega
  | .eit ws => by have h := wtWs ws; simp only [toD, wtD, wtDs, cW, sl_either]; omega
  | .row ws => by have h := wtWs ws; simp only [toD, wtD, wtDs, cW, sl_row]; omega
  | .bes a b => by have h1 := wtW a; have h2 := wtW b; simp only [toD, wtD, wtDs, cW, sl_beside]; omega
theorem wtWs : ∀ ws : List Wk, wtDs (toDs ws) ≤ 100 * cWs ws
  | [] => by simp [toDs, wtDs]
  | w :: ws => by have h1 := wtW w; have h2 := wtWs ws; simp only [toDs, wtDs, cWs]; omega
end
mutual
theorem dpW2 : ∀ w : Wk, dpW w ≤ 2 * dW w
  | .tick n => by simp [dpW, dW]
  | .sme a b t => by simp [dpW, dW]
  | .lop a b t w => by have := dpW2 w; simp only [dpW, dW]; omega
  | .eit ws => by have := dpWs2 ws; simp only [dpW, dW]; omega
  | .row ws => by have := dpWs2 ws; simp only [dpW, dW]; omega
  | .bes a b => by have := dpW2 a; have := dpW2 b; simp only [dpW, dW]; omega
theorem dpWs2 : ∀ ws : List Wk, dpWs ws ≤ 2 * dWs ws
  | [] => by simp [dpWs]
  | w :: ws => by have := dpW2 w; have := dpWs2 ws; simp only [dpWs, dWs]; omega
end
theorem sm_ix {k : Nat} (h : k < 10 ^ 12) : smD (ixD k) = true := by
  simp only [ixD, smD, decide_eq_true_eq]; omega
theorem sm_pth {p : Pth} (h : ∀ k ∈ p, k < 10 ^ 12) : smD (pthD p) = true := by
  simp only [pthD, smD]
  refine smDs_iff.mpr fun d hd => ?_
  obtain ⟨k, hk, rfl⟩ := List.mem_map.mp hd
  exact sm_ix (h k hk)
theorem dep_pth (p : Pth) : depD (pthD p) ≤ 1 := by
  simp only [pthD, depD]
  have : depDs (p.map ixD) ≤ 0 := depDs_le fun d hd => by obtain ⟨k, -, rfl⟩ := List.mem_map.mp hd; simp [ixD, depD]
  omega
theorem along_small : ∀ (r : Pth) (w : Wk) (l : List Wk), alongW w r = some l → ∀ k ∈ r, k < cW w
  | [], w, l, e, k, hk => nomatch hk
  | j :: r, w, l, e, k, hk => by
    rw [alongW] at e
    split at e
    · rename_i v hv
      obtain ⟨l', e', rfl⟩ := Option.map_eq_some_iff.mp e
      have h1 := (List.getElem?_eq_some_iff.mp hv).1
      have h2 := inn_len w
      have h3 := inn_c (List.mem_of_getElem? hv)
      rcases List.mem_cons.mp hk with rfl | hk
      · omega
      · have := along_small r v l' e' k hk; omega
    · cases e
theorem pre_small {w : Wk} {q : Pth × Wk} (hq : q ∈ preW [] w) : ∀ k ∈ q.1, k < cW w := by
  obtain ⟨r, l, e1, e2, e3, e4⟩ := pre_along w [] q hq
  rw [e1, List.nil_append]
  exact along_small r w l e2
end K03

namespace K03
open PySem L2 Dl 
local macro_rules | `(tactic| walk_at "ds") => `(tactic| repeat' with_reducible first
  | refine iVar (by with_unfolding_all rfl) ?_
  | refine iCons ?_
  | refine iNil ?_
  | refine iC ?_
  | refine iOp ?_
  | refine iSeq ?_
  | refine iAsg ?_
  | refine iGNm ?_
  | refine iTup ?_
  | refine iFrz ?_
  | refine iTst ?_
  | refine iIfS ?_
  | refine iRet ?_
  | refine iCall ?_
  | refine iLst ?_
  | refine iNext ?_
  | refine lstP_i (by assumption) ?_
  | refine lstP_i updG_same ?_
  | refine iRev ?_
  | refine revL ?_
  | refine iDrop ?_
  | refine iPar ?_
  | refine iGTp (by with_unfolding_all rfl) ?_
  | refine iGsCons ?_
  | refine iGsNil ?_
  | refine lenOk (by with_unfolding_all rfl) ?_
  | refine frzEnd ?_
  | refine lstC_t ?_
  | refine iIf ?_
  | refine ifT ?_
  | refine ifF ?_
  | refine iCB ?_
  | refine iMt ?_
  | refine iStar ?_
  | refine iFor ?_
  | refine rIx_i (by with_unfolding_all rfl) (by with_unfolding_all rfl) ?_
  | refine rIx_i (by with_unfolding_all rfl) atI_0 ?_
  | refine eq_strT ?_
  | refine eq_strF (by with_unfolding_all rfl) ?_
  | refine int0 ?_
  | refine len_l ?_
  | refine iIRg1 ?_
  | refine inn_T (by with_unfolding_all rfl) (by decide +kernel) (by decide +kernel) (by decide +kernel) ?_
  | refine inn_F (by with_unfolding_all rfl) (by decide +kernel) (by decide +kernel) (by decide +kernel) ?_
  | fail "stuck")
theorem forN (n : Nat) (f : Nat → D) {g : DTG} {tb : DTS} {E : DEnds} {J : Nat → DSt → GH → Prop} (h0 : ∀ ρ G, J n ρ G → E.nx ρ G)
    (h : ∀ k, k < n → ∀ ρ G, J k ρ G → ∀ K : DSt → GH → Prop, (∀ ρ' G', J (k + 1) ρ' G' → K ρ' G') → g (f k) ρ G fun ρ2 G2 => tb { E with nx := K, ct := K, bk := E.nx } ρ2 G2) :
    ∀ ρ G, J 0 ρ G → dForGo okAll g tb ((List.range n).map f) E ρ G := by
  intro ρ G j
  refine dForGo_of (I := fun rest ρ G => ∃ k, k ≤ n ∧ rest = ((List.range n).map f).drop k ∧ J k ρ G) ?_ ?_ _ _ _ ⟨0, Nat.zero_le _, rfl, j⟩
  · rintro ρ G ⟨k, hk, e, j⟩
    have : k = n := by
      have := congrArg List.length e
      rw [List.length_drop, List.length_map, List.length_range, List.length_nil] at this
      omega
    subst this
    exact ⟨trivial, h0 ρ G j⟩
  · rintro x rest ρ G ⟨k, hk, e, j⟩ K hK
    have hlt : k < n := by
      have := congrArg List.length e
      rw [List.length_drop, List.length_map, List.length_range, List.length_cons] at this
      omega
    rw [List.drop_eq_getElem_cons (by rw [List.length_map, List.length_range]; exact hlt)] at e
    injection e with e1 e2
    subst e2
    rw [e1, List.getElem_map, List.getElem_range]
    exact ⟨trivial, h k hlt ρ G j K fun ρ' G' j' => hK ρ' G' ⟨k + 1, hlt, rfl, j'⟩⟩
theorem iIEnL {te : DTE} {ρ : DSt} {G : GH} {Qi : List D → (GH → Prop) → GH → Prop} (h : te ρ G fun d G1 => match d with
  | .lst ds => Qi (enumD ds) okAll G1
  | _ => False) : iEnL te ρ G Qi := h
def Ri : List D → D → Prop := fun ds d => ∃ w, ds = [toD w] ∧ d = .lst (toDs (innW w))
theorem inner_works_rd : ∀ ds G Q E, pSp Ri ds G Q E → r_inner_works { nx := fun _ G' => Q .non G', rt := Q } (startD 1 ds) G := by
  rintro ds G Q E ⟨_, ⟨w, rfl, rfl⟩, hq⟩
  unfold r_inner_works
  have hq' := hq G (Grow.refl G)
  cases w <;> rw [toD] <;> walk_at "ds" <;> simpa [innW, toDs] using hq'
def spSubs : DSp := fun ds G Q _ => ∃ w, ds = [toD w] ∧ ∀ p G', Grow G G' → G p = none → G' p = some (.lst (toDs (innW w))) → Q (.ref p) G'
theorem law_subs_rd : ∀ ds G Q E, spSubs ds G Q E → r_law_subs { nx := fun _ G' => Q .non G', rt := Q } (startD 1 ds) G := by
  rintro ds G Q E ⟨w, rfl, hq⟩
  unfold r_law_subs
  have fin : ∀ l, l = toDs (innW w) → ∀ p, G p = none → Q (.ref p) (updG G p (.lst l)) := by
    rintro l rfl p hp
    exact hq p _ (Grow.upd hp) hp updG_same
  cases w <;> rw [toD] <;> walk_at "ds" <;> (intro p hp; refine fin _ ?_ p hp; simp [innW, toDs])
theorem prsW_len (p : Pth) (w : Wk) : (prsW p w).length = (innW w).length := by simp [prsW]
theorem enum_inn (ws : List Wk) : enumD (toDs ws) = ws.zipIdx.map fun q => D.tup [ixD q.2, toD q.1] := by
  rw [enumD_map]
  apply List.ext_getElem
  · simp
  · intro i h1 h2
    simp only [List.length_map, List.length_range, toDs_len] at h1
    simp [toDs_map, ixD, List.getElem_zipIdx, List.getD, h1]
def Rip : List D → D → Prop := fun ds d => ∃ p w, ds = [pthD p, toD w] ∧ p.length ≤ 1000 ∧ cW w ≤ 1000 ∧ d = .lst ((prsW p w).map prD)
theorem inner_pairs_rd : ∀ ds G Q E, pSp Rip ds G Q E → r_inner_pairs (pSp Ri) { nx := fun _ G' => Q .non G', rt := Q } (startD 4 ds) G := by
  rintro ds G Q E ⟨_, ⟨p, w, rfl, hp, hc, rfl⟩, hq⟩
  unfold r_inner_pairs
  have hl := inn_len w
  walk_at "ds"
  refine lcF (innW w).zipIdx (fun q => .tup [ixD q.2, toD q.1]) (fun q => prD (p ++ [q.2], q.1)) ?_ ?_ ?_ ?_
  · intro P hP
    refine iIEnL ?_
    walk_at "ds"
    refine ⟨_, ⟨w, rfl, rfl⟩, fun G1 g1 => ?_⟩
    show P (enumD (toDs (innW w))) okAll G1
    rw [enum_inn]
    exact hP _ _ (fun _ => trivial) g1
  · rw [List.length_zipIdx]; show _ ≤ sizeLine; have : (1000 : Nat) ≤ sizeLine := by decide
    omega
  · intro q hqm
    refine ⟨_, rfl, fun G1 K hK => ?_⟩
    have : (1002 : Nat) ≤ sizeLine := by decide
    walk_at "ds"
    refine ⟨by simp [ixD]; omega, ?_⟩
    walk_at "ds"
    have e : D.tup [D.tup (p.map ixD ++ [ixD q.2]), toD q.1] = prD (p ++ [q.2], q.1) := by simp [prD, pthD]
    rw [e]
    exact hK _ (Grow.refl _)
  · intro G1 g1
    have e : (innW w).zipIdx.map (fun q => prD (p ++ [q.2], q.1)) = (prsW p w).map prD := by rw [prsW, List.map_map]; rfl
    rw [e]
    exact hq _ g1
theorem lotW_ge : ∀ V : List (Pth × Wk), V.length ≤ (lotW V).length := by
  intro V
  unfold lotW
  rw [List.length_flatMap]
  have : ∀ U : List (Pth × Wk), U.length ≤ (U.map fun q => (preW q.1 q.2).length).sum := by
    intro U
    induction U with
    | nil => simp
    | cons q U ih => rw [List.map_cons, List.sum_cons, List.length_cons, pre_len]; have := cW_pos q.2; omega
  have := this V.reverse
  rw [List.length_reverse] at this
  exact this
def Rall : List D → D → Prop := fun ds d => ∃ w, ds = [toD w] ∧ cW w ≤ 400 ∧ dW w ≤ 400 ∧ d = .lst ((preW [] w).map prD)
theorem all_pairs_rd : ∀ ds G Q E, pSp Rall ds G Q E → r_all_pairs (pSp Rip) { nx := fun _ G' => Q .non G', rt := Q } (startD 5 ds) G := by
  rintro ds G Q E ⟨_, ⟨w, rfl, hc, hd, rfl⟩, hq⟩
  unfold r_all_pairs
  have hz : (2000 : Nat) ≤ sizeLine := by decide
  walk_at "ds"
  intro f hf
  walk_at "ds"
  intro q hqn
  have hfq : f ≠ q := by rintro rfl; rw [updG_same] at hqn; cases hqn
  have hqn' : G q = none := by rw [updG_ne (Ne.symm hfq)] at hqn; exact hqn
  walk_at "ds"
  refine dWhile_of (I := fun n ρ G' => ∃ x3 x4 done V, ρ = [some (toD w), some (.ref f), some (.ref q), x3, x4] ∧ G' f = some (.lst (done.map prD)) ∧ G' q = some (.lst (V.map prD)) ∧ done ++ lotW V = preW [] w ∧ (lotW V).length = n ∧ Grow G G') ?_ (lotW [([], w)]).length _ _
    ⟨_, _, [], [([], w)], rfl, by rw [updG_ne hfq, updG_same]; rfl, by rw [updG_same]; rfl, by rw [lotW_one]; rfl, rfl, Grow.upd2 hqn' (Grow.upd hf)⟩
  rintro n ρ G1 ⟨x3, x4, done, V, rfl, ef, eq, eD, en, g1⟩ K hK
  walk_at "ds"
  refine len_r eq ?_
  walk_at "ds"
  rw [List.length_map]
  have tot : done.length + n = cW w := by rw [← pre_len w [], ← eD, List.length_append, en]
  have hV := lotW_ge V
  refine ifD (fun h => ?_) (fun h => ?_)
  · rcases List.eq_nil_or_concat V with rfl | ⟨V', ⟨p, u⟩, rfl⟩
    · simp at h
    rw [List.concat_eq_append] at eq eD en hV
    rw [List.map_append] at eq
    have hm : (p, u) ∈ preW [] w := by rw [← eD, lotW_pop]; simp
    have hpl := pre_plen hm
    have hcu : cW u ≤ cW w := pre_ind (P := fun u => cW u ≤ cW w) (fun a b h hb => by have := inn_c hb; omega) (Nat.le_refl _) hm
    have hiu := inn_len u
    walk_at "ds"
    refine pop_i eq ?_
    rw [show prD (p, u) = D.tup [pthD p, toD u] from rfl]
    have ef2 : updG G1 q (.lst (V'.map prD)) f = some (.lst (done.map prD)) := by rw [updG_ne hfq]; exact ef
    walk_at "ds"
    refine app_i ef2 (by rw [List.length_map]; omega) ?_
    have eq2 : updG (updG G1 q (.lst (V'.map prD))) f (.lst (done.map prD ++ [D.tup [pthD p, toD u]])) q = some (.lst (V'.map prD)) := by rw [updG_ne (Ne.symm hfq), updG_same]
    walk_at "ds"
    refine ⟨_, ⟨p, u, rfl, by simp at hpl; omega, by omega, rfl⟩, fun G2 g2 => ?_⟩
    walk_at "ds"
    have e2 : G2 q = some (.lst (V'.map prD)) := g2 _ _ eq2
    have e1 : G2 f = some (.lst (done.map prD ++ [prD (p, u)])) := g2 _ _ (by rw [updG_same]; rfl)
    have hvl : V'.length + 1 ≤ n := by simp at hV; omega
    refine ext_i e2 (by with_unfolding_all rfl) (by simp [prsW_len]; omega) ?_
    walk_at "ds"
    refine hK ((lotW (V' ++ (prsW p u).reverse)).length) (by rw [lotW_pop] at en; simp at en; exact en) _ _ ⟨_, _, done ++ [(p, u)], V' ++ (prsW p u).reverse, rfl, by rw [updG_ne hfq, e1]; simp, by rw [updG_same]; simp, by rw [← eD, lotW_pop]; simp, rfl, ?_⟩
    exact Grow.upd2 hqn' (((Grow.upd2 hf (Grow.upd2 hqn' g1))).trans g2)
  · have hv0 : V = [] := by cases V with
      | nil => rfl
      | cons a t => simp at h
    subst hv0
    have eD' : done = preW [] w := by rw [← eD]; simp [lotW]
    walk_at "ds"
    refine frzR ef ?_
    rw [eD']
    exact hq _ (Grow.drop hf g1)
end K03

namespace K03
open PySem L2 Dl 
local macro_rules | `(tactic| walk_at "ds") => `(tactic| repeat' with_reducible first
  | refine iVar (by with_unfolding_all rfl) ?_
  | refine iCons ?_
  | refine iNil ?_
  | refine iC ?_
  | refine iOp ?_
  | refine iFrz ?_
  | refine iRet ?_
  | refine iCall ?_
  | refine iLst ?_
  | refine lenOk (by with_unfolding_all rfl) ?_
  | refine frzEnd ?_
  | refine iCB ?_
  | refine iISq ?_
  | refine add_ii ?_
  | refine len_l ?_
  | refine tupC_l ?_
  | fail "stuck")
def Rps : List D → D → Prop := fun ds d => ∃ w, ds = [toD w] ∧ cW w ≤ 400 ∧ dW w ≤ 400 ∧ d = .tup ((preW [] w).map prD)
theorem parts_of_rd : ∀ ds G Q E, pSp Rps ds G Q E → r_parts_of (pSp Rall) { nx := fun _ G' => Q .non G', rt := Q } (startD 1 ds) G := by
  rintro ds G Q E ⟨_, ⟨w, rfl, hc, hd, rfl⟩, hq⟩
  unfold r_parts_of
  walk_at "ds"
  refine ⟨_, ⟨w, rfl, hc, hd, rfl⟩, fun G1 g1 => ?_⟩
  walk_at "ds"
  exact hq _ g1
def Rsz : List D → D → Prop := fun ds d => ∃ w, ds = [toD w] ∧ cW w ≤ 400 ∧ dW w ≤ 400 ∧ d = ixD (cW w)
theorem size_of_rd : ∀ ds G Q E, pSp Rsz ds G Q E → r_size_of (pSp Rall) { nx := fun _ G' => Q .non G', rt := Q } (startD 1 ds) G := by
  rintro ds G Q E ⟨_, ⟨w, rfl, hc, hd, rfl⟩, hq⟩
  unfold r_size_of
  walk_at "ds"
  refine ⟨_, ⟨w, rfl, hc, hd, rfl⟩, fun G1 g1 => ?_⟩
  walk_at "ds"
  have := hq _ g1
  simpa [ixD, pre_len] using this
theorem dWs_at : ∀ ws : List Wk, dWs ws = 0 ∨ ∃ (j : Nat) (u : Wk), ws[j]? = some u ∧ dW u = dWs ws
  | [] => .inl rfl
  | w :: ws => by
    rw [dWs]
    rcases Nat.le_total (dWs ws) (dW w) with h | h
    · exact .inr ⟨0, w, rfl, by omega⟩
    · rcases dWs_at ws with e | ⟨j, u, e1, e2⟩
      · exact .inr ⟨0, w, rfl, by omega⟩
      · exact .inr ⟨j + 1, u, by simpa using e1, by omega⟩
theorem pre_deep : ∀ (n : Nat) (w : Wk) (p : Pth), dW w ≤ n → ∃ q ∈ preW p w, q.1.length + 1 = p.length + dW w
  | 0, w, p, h => by have := dW_pos w; omega
  | n + 1, w, p, h => by
    rcases dWs_at (innW w) with e | ⟨j, u, e1, e2⟩
    · exact ⟨(p, w), by rw [preW_eq]; exact List.mem_cons_self .., by rw [dW_in w, e]⟩
    · have hu := inn_d (List.mem_of_getElem? e1)
      obtain ⟨q, hq, e3⟩ := pre_deep n u (p ++ [j]) (by omega)
      refine ⟨q, ?_, ?_⟩
      · rw [preW_eq]
        refine List.mem_cons_of_mem _ (pres_at (k := 0) e1 q ?_)
        rw [Nat.zero_add]; exact hq
      · rw [e3, dW_in w, ← e2]; simp; omega
theorem intsN {G : GH} {ns : List Nat} {P : List Int → Prop} (h : P (ns.map fun (n : Nat) => (n : Int))) : intsP G (.lst (ns.map ixD)) P := by
  have e : intsD (ns.map ixD) = some (ns.map fun (n : Nat) => (n : Int)) := by
    rw [show ns.map ixD = (ns.map fun (n : Nat) => (n : Int)).map D.int by rw [List.map_map]; rfl]
    exact intsD_map _
  show (match intsD (ns.map ixD) with | some ns => P ns | none => False)
  rw [e]
  exact h
def Rdp : List D → D → Prop := fun ds d => ∃ w, ds = [toD w] ∧ cW w ≤ 400 ∧ dW w ≤ 400 ∧ d = ixD (dW w)
theorem depth_of_rd : ∀ ds G Q E, pSp Rdp ds G Q E → r_depth_of (pSp Rall) { nx := fun _ G' => Q .non G', rt := Q } (startD 3 ds) G := by
  rintro ds G Q E ⟨_, ⟨w, rfl, hc, hd, rfl⟩, hq⟩
  unfold r_depth_of
  have hz : (2000 : Nat) ≤ sizeLine := by decide
  walk_at "ds"
  refine lcF (preW [] w) prD (fun q => ixD q.1.length) ?_ ?_ ?_ ?_
  · intro P hP
    walk_at "ds"
    refine ⟨_, ⟨w, rfl, hc, hd, rfl⟩, fun G1 g1 => ?_⟩
    exact hP _ _ (fun _ => trivial) g1
  · rw [pre_len]; omega
  · intro q hqm
    refine ⟨_, rfl, fun G1 K hK => ?_⟩
    walk_at "ds"
    have := hK G1 (Grow.refl _)
    simpa [pthD, ixD] using this
  · intro G1 g1
    walk_at "ds"
    show intsP G1 (.lst ((preW [] w).map fun q => ixD q.1.length)) _
    rw [show ((preW [] w).map fun q => ixD q.1.length) = ((preW [] w).map fun q => q.1.length).map ixD by rw [List.map_map]; rfl]
    refine intsN ⟨by simp [pre_len]; exact cW_pos w, fun m hm hall => ?_⟩
    obtain ⟨q, hq1, hq2⟩ := pre_deep (dW w) w [] (Nat.le_refl _)
    have h1 := hall (q.1.length : Nat) (List.mem_map.mpr ⟨_, List.mem_map.mpr ⟨q, hq1, rfl⟩, rfl⟩)
    obtain ⟨n, hn, rfl⟩ := List.mem_map.mp hm
    obtain ⟨q', hq', rfl⟩ := List.mem_map.mp hn
    have h2 := pre_plen hq'
    simp only [List.length_nil] at h2 hq2
    walk_at "ds"
    have e : ((q'.1.length : Nat) : Int) + 1 = (dW w : Nat) := by omega
    rw [e]
    exact hq _ g1
end K03

namespace K03
open PySem L2 Dl 
local macro_rules | `(tactic| walk_at "ds") => `(tactic| repeat' with_reducible first
  | refine iVar (by with_unfolding_all rfl) ?_
  | refine iCons ?_
  | refine iNil ?_
  | refine iC ?_
  | refine iOp ?_
  | refine iSeq ?_
  | refine iAsg ?_
  | refine iGNm ?_
  | refine iTup ?_
  | refine iFrz ?_
  | refine iTst ?_
  | refine iIfS ?_
  | refine iRet ?_
  | refine iCall ?_
  | refine iNext ?_
  | refine iRev ?_
  | refine revT ?_
  | refine revL ?_
  | refine iGTp (by with_unfolding_all rfl) ?_
  | refine iGsCons ?_
  | refine iGsNil ?_
  | refine lenOk (by with_unfolding_all rfl) ?_
  | refine frzEnd ?_
  | refine slT ?_
  | refine iIf ?_
  | refine ifT ?_
  | refine ifF ?_
  | refine iSl ?_
  | refine iP ?_
  | refine iNoP ?_
  | refine iStar ?_
  | refine iFor ?_
  | refine rIx_i (by with_unfolding_all rfl) (by with_unfolding_all rfl) ?_
  | refine rIx_i (by with_unfolding_all rfl) atI_0 ?_
  | refine eq_strT ?_
  | refine eq_strF (by with_unfolding_all rfl) ?_
  | fail "stuck")
theorem cut_take (l : List D) (k : Nat) : cutD l none (some (k : Nat)) = l.take k := by
  have h0 : ¬ ((k : Int) < 0) := by omega
  unfold cutD HT.sIx
  simp [h0]
theorem cut_drop (l : List D) (k : Nat) : cutD l (some ((k : Nat) : Int)) none = l.drop k := by
  have h0 : ¬ ((k : Int) < 0) := by omega
  unfold cutD HT.sIx
  simp only [h0, if_false, Int.toNat_natCast, List.drop_zero, Nat.sub_zero]
  by_cases h : k ≤ l.length
  · rw [Nat.min_eq_left h]; exact List.take_of_length_le (by simp)
  · rw [Nat.min_eq_right (by omega), List.drop_of_length_le (show l.length ≤ l.length by omega), List.drop_of_length_le (show l.length ≤ k by omega)]; simp
theorem rev_zip {α β : Type} : ∀ (a : List α) (b : List β), a.length = b.length → (a.zip b).reverse = a.reverse.zip b.reverse
  | [], [], _ => rfl
  | x :: a, y :: b, h => by
    simp only [List.length_cons, Nat.add_right_cancel_iff] at h
    rw [List.zip_cons_cons, List.reverse_cons, rev_zip a b h, List.reverse_cons, List.reverse_cons, List.zip_append (by simpa using h)]; rfl
  | [], _ :: _, h => by simp at h
  | _ :: _, [], h => by simp at h
def Rpi : List D → D → Prop := fun ds d => ∃ w k x, ds = [toD w, ixD k, toD x] ∧ k < (innW w).length ∧ (innW w).length ≤ 1000 ∧ d = toD (setW w k x)
theorem put_inner_rd : ∀ ds G Q E, pSp Rpi ds G Q E → r_put_inner { nx := fun _ G' => Q .non G', rt := Q } (startD 4 ds) G := by
  rintro ds G Q E ⟨_, ⟨w, k, x, rfl, hk, hn, rfl⟩, hq⟩
  unfold r_put_inner
  have hz : (2000 : Nat) ≤ sizeLine := by decide
  have hq' := hq G (Grow.refl G)
  have rowlike : ∀ (s : String) (ws : List Wk), k < ws.length → ws.length ≤ 1000 → (s == "loop") = false → (s == "beside") = false → (Q (.tup [.str s, .tup (toDs (ws.set k x))]) G) →
      (dSeq (dAsg (dOp rIx (dVar 0) (dC (.int 0))) (gNm 3))
  (dSeq (dIfS (dTst (dOp rEqv (dVar 3) (dC (.str "loop"))))
  (dRet (dTup (dStar (dSl (dVar 0) dNoP (dP (dC (.int 4)))) (dCons (dVar 2) dNil))))
  dNext)
  (dSeq (dIfS (dTst (dOp rEqv (dVar 3) (dC (.str "beside"))))
  (dRet (dIf (dTst (dOp rEqv (dVar 1) (dC (.int 0)))) (dTup (dCons (dVar 3) (dCons (dVar 2) (dCons (dOp rIx (dVar 0) (dC (.int 2))) dNil)))) (dTup (dCons (dVar 3) (dCons (dOp rIx (dVar 0) (dC (.int 1))) (dCons (dVar 2) dNil))))))
  dNext)
  (dRet (dTup (dCons (dVar 3) (dCons (dTup (dStar (dSl (dOp rIx (dVar 0) (dC (.int 1))) dNoP (dP (dVar 1))) (dCons (dVar 2) (dStar (dSl (dOp rIx (dVar 0) (dC (.int 1))) (dP (dOp rAdd (dVar 1) (dC (.int 1)))) dNoP) dNil)))) dNil))))))) { nx := fun _ G' => Q .non G', rt := Q } (startD 4 [.tup [.str s, .tup (toDs ws)], ixD k, toD x]) G := by
    intro s ws hk hn e1 e2 h
    walk_at "ds"
    refine eq_strF e1 ?_
    walk_at "ds"
    refine eq_strF e2 ?_
    walk_at "ds"
    have e : (toDs (ws.set k x)) = cutD (toDs ws) none (some (k : Nat)) ++ toD x :: (cutD (toDs ws) (some ((k : Int) + 1)) none ++ []) := by
      rw [cut_take, show ((k : Int) + 1) = ((k + 1 : Nat) : Int) by omega, cut_drop, List.append_nil, toDs_map, toDs_map, List.map_set, List.set_eq_take_append_cons_drop, if_pos (by simpa using hk)]
    refine ⟨?_, ?_⟩
    · rw [← e, toDs_len, List.length_set]; omega
    walk_at "ds"
    rw [← e]; exact h
  cases w with
  | tick n => simp [innW] at hk
  | sme a b t => simp [innW] at hk
  | lop a b t v =>
    rw [toD]
    walk_at "ds"
    have e : cutD [D.str "loop", .int a, .int b, .bl t, toD v] none (some 4) = [D.str "loop", .int a, .int b, .bl t] := by
      rw [show (4 : Int) = ((4 : Nat) : Int) from rfl, cut_take]; rfl
    simp only [e]
    show 5 ≤ sizeLine ∧ Q (D.tup [.str "loop", .int a, .int b, .bl t, toD x]) G
    exact ⟨by decide, by simpa [setW, toD] using hq'⟩
  | bes a b =>
    rw [toD]
    walk_at "ds"
    simp [innW] at hk
    refine ifD (fun h => ?_) (fun h => ?_)
    · have : k = 0 := by simp [ixD] at h; omega
      subst this
      walk_at "ds"
      simpa [setW, toD] using hq'
    · obtain ⟨j, rfl⟩ : ∃ j, k = j + 1 := ⟨k - 1, by simp at h; omega⟩
      walk_at "ds"
      simpa [setW, toD] using hq'
  | row ws => rw [toD]; exact rowlike "row" ws hk hn (by decide +kernel) (by decide +kernel) (by simpa [setW, toD] using hq')
  | eit ws => rw [toD]; exact rowlike "either" ws hk hn (by decide +kernel) (by decide +kernel) (by simpa [setW, toD] using hq')
def stepsW (l : List Wk) (p : Pth) : List (Wk × Nat) := l.dropLast.zip p
theorem along_cons {w : Wk} {k : Nat} {r : Pth} {l : List Wk} (e : alongW w (k :: r) = some l) : ∃ v l', (innW w)[k]? = some v ∧ alongW v r = some l' ∧ l = w :: l' ∧ l' ≠ [] := by
  rw [alongW] at e
  split at e
  · rename_i v hv
    obtain ⟨l', e', rfl⟩ := Option.map_eq_some_iff.mp e
    exact ⟨v, l', hv, e', rfl, by have := along_len r v l' e'; rintro rfl; simp at this⟩
  · cases e
theorem put_fold (x : Wk) : ∀ (p : Pth) (w : Wk) (l : List Wk), alongW w p = some l → (stepsW l p).foldr (fun q y => setW q.1 q.2 y) x = putW x w p
  | [], w, l, e => by rw [alongW] at e; cases e; rfl
  | k :: r, w, l, e => by
    obtain ⟨v, l', hv, e', rfl, hl⟩ := along_cons e
    rw [stepsW, List.dropLast_cons_of_ne_nil hl, List.zip_cons_cons, List.foldr_cons, putW, hv]
    dsimp only
    rw [← put_fold x r v l' e']; rfl
theorem steps_ok : ∀ (p : Pth) (w : Wk) (l : List Wk), alongW w p = some l → ∀ q ∈ stepsW l p, q.2 < (innW q.1).length ∧ cW q.1 ≤ cW w
  | [], w, l, e, q, h => by rw [alongW] at e; cases e; cases h
  | k :: r, w, l, e, q, h => by
    obtain ⟨v, l', hv, e', rfl, hl⟩ := along_cons e
    rw [stepsW, List.dropLast_cons_of_ne_nil hl, List.zip_cons_cons, List.mem_cons] at h
    rcases h with rfl | h
    · exact ⟨(List.getElem?_eq_some_iff.mp hv).1, Nat.le_refl _⟩
    · have h1 := steps_ok r v l' e' q h
      have := inn_c (List.mem_of_getElem? hv)
      exact ⟨h1.1, by omega⟩
theorem zip_rev (l : List Wk) (p : Pth) (h : l.length = p.length + 1) : zipD (toDs l.dropLast).reverse (p.map ixD).reverse = (stepsW l p).reverse.map fun q => D.tup [toD q.1, ixD q.2] := by
  have e : l.dropLast.length = p.length := by rw [List.length_dropLast]; omega
  unfold zipD stepsW
  rw [toDs_map, ← List.map_reverse, ← List.map_reverse, List.zip_map, List.map_map, rev_zip _ _ e]
  rfl
theorem iIZpM {tl : DTA} {ρ : DSt} {G : GH} {Qi : List D → (GH → Prop) → GH → Prop} (h : tl ρ G fun ds G1 => match ds with
  | [.lst xs, .tup ys] => Qi (zipD xs ys) okAll G1
  | _ => False) : iZpM tl ρ G Qi := h
def Rpa : List D → D → Prop := fun ds d => ∃ w p x l, ds = [.lst (toDs l.dropLast), pthD p, toD x] ∧ alongW w p = some l ∧ cW w ≤ 1000 ∧ d = toD (putW x w p)
theorem put_along_rd : ∀ ds G Q E, pSp Rpa ds G Q E → r_put_along (pSp Rpi) { nx := fun _ G' => Q .non G', rt := Q } (startD 5 ds) G := by
  rintro ds G Q E ⟨_, ⟨w, p, x, l, rfl, hl, hc, rfl⟩, hq⟩
  unfold r_put_along
  have hk := steps_ok p w l hl
  rw [← put_fold x p w l hl] at hq
  rw [show pthD p = D.tup (p.map ixD) from rfl]
  walk_at "ds"
  refine iIZpM ?_
  walk_at "ds"
  show dForGo okAll _ _ (zipD (toDs l.dropLast).reverse (p.map ixD).reverse) _ _ _
  rw [zip_rev l p (along_len p w l hl)]
  refine dForGo_of (I := fun rest ρ G' => ∃ rs y x3 x4, rest = rs.map (fun q => D.tup [toD q.1, ixD q.2]) ∧ (∀ q ∈ rs, q ∈ stepsW l p) ∧ ρ = [some (.lst (toDs l.dropLast)), some (.tup (p.map ixD)), some (toD y), x3, x4] ∧ rs.foldl (fun y q => setW q.1 q.2 y) y = (stepsW l p).foldr (fun q y => setW q.1 q.2 y) x ∧ Grow G G') ?_ ?_ _ _ _
    ⟨(stepsW l p).reverse, x, _, _, rfl, fun q h => List.mem_reverse.mp h, rfl, by rw [List.foldl_reverse], Grow.refl G⟩
  · rintro ρ G1 ⟨rs, y, x3, x4, e0, -, rfl, e1, g1⟩
    cases rs with
    | cons => cases e0
    | nil =>
      refine ⟨trivial, ?_⟩
      walk_at "ds"
      rw [← e1] at hq
      exact hq _ g1
  · rintro z rest ρ G1 ⟨rs, y, x3, x4, e0, hm, rfl, e1, g1⟩ K hK
    cases rs with
    | nil => cases e0
    | cons q rs =>
      injection e0 with e2 e3
      subst e2 e3
      have h1 := hk q (hm q (List.mem_cons_self ..))
      have h2 := inn_len q.1
      refine ⟨trivial, ?_⟩
      walk_at "ds"
      refine ⟨_, ⟨q.1, q.2, y, rfl, h1.1, by omega, rfl⟩, fun G2 g2 => ?_⟩
      walk_at "ds"
      exact hK _ _ ⟨rs, _, _, _, rfl, fun q h => hm q (List.mem_cons_of_mem _ h), rfl, e1, g1.trans g2⟩
end K03

namespace K03
open PySem L2 Dl 
local macro_rules | `(tactic| walk_at "ds") => `(tactic| repeat' with_reducible first
  | refine iVar (by with_unfolding_all rfl) ?_
  | refine iCons ?_
  | refine iNil ?_
  | refine iC ?_
  | refine iOp ?_
  | refine iSeq ?_
  | refine iAsg ?_
  | refine iTup ?_
  | refine iFrz ?_
  | refine iTst ?_
  | refine iIfS ?_
  | refine iRet ?_
  | refine iCall ?_
  | refine iNext ?_
  | refine iPar ?_
  | refine iGSb ?_
  | refine lenOk (by with_unfolding_all rfl) ?_
  | refine slT ?_
  | refine iIf ?_
  | refine ifT ?_
  | refine ifF ?_
  | refine iCB ?_
  | refine iSl ?_
  | refine iP ?_
  | refine iNoP ?_
  | refine iISq ?_
  | refine rIx_i (by with_unfolding_all rfl) (by with_unfolding_all rfl) ?_
  | refine rIx_i (by with_unfolding_all rfl) atI_0 ?_
  | refine eq_strT ?_
  | refine eq_strF (by with_unfolding_all rfl) ?_
  | refine add_ttb (by with_unfolding_all rfl) ?_
  | refine inn_T (by with_unfolding_all rfl) (by decide +kernel) (by decide +kernel) (by decide +kernel) ?_
  | refine inn_F (by with_unfolding_all rfl) (by decide +kernel) (by decide +kernel) (by decide +kernel) ?_
  | fail "stuck")
theorem ok_pth (p : Pth) : okD (.tup (p.map ixD)) := by
  constructor
  · rw [pureD]
    induction p with
    | nil => simp [pureDs]
    | cons x xs ih => simp [pureDs, pureD, ixD, ih]
  · have := dep_pth p
    rw [pthD] at this
    omega
end K03

namespace K03
open PySem L2 Dl 
local macro_rules | `(tactic| walk_at "ds") => `(tactic| repeat' with_reducible first
  | refine iVar (by with_unfolding_all rfl) ?_
  | refine iCons ?_
  | refine iNil ?_
  | refine iC ?_
  | refine iOp ?_
  | refine iAsg ?_
  | refine iGNm ?_
  | refine iFrz ?_
  | refine iRet ?_
  | refine iCall ?_
  | refine iLst ?_
  | refine iNext ?_
  | refine iXPa ?_
  | refine iXPt ?_
  | refine iXPs ?_
  | refine iXSeq ?_
  | refine iXDrop ?_
  | refine iXIfS ?_
  | refine iXCall ?_
  | refine iXRaise ?_
  | refine iNeg ?_
  | refine lstP_i (by assumption) ?_
  | refine lstP_i updG_same ?_
  | refine iDrop ?_
  | refine lenOk (by with_unfolding_all rfl) ?_
  | refine iTru ?_
  | refine truB ?_
  | refine iNot ?_
  | refine iAndVK ?_
  | refine andVT ?_
  | refine andVF ?_
  | refine iNotV ?_
  | refine iCB ?_
  | refine iMt ?_
  | refine iIsi ?_
  | refine iISq ?_
  | refine rIx_i (by with_unfolding_all rfl) (by with_unfolding_all rfl) ?_
  | refine rIx_i (by with_unfolding_all rfl) atI_0 ?_
  | refine int0 ?_
  | refine len_l ?_
  | refine isi_T (by with_unfolding_all rfl) (by decide +kernel) ?_
  | refine isi_F (by with_unfolding_all rfl) (by decide +kernel) ?_
  | refine ifNT ?_
  | refine ifNF ?_
  | fail "stuck")
def Pln : D → Bool
  | .non | .bl _ | .int _ | .str _ | .tup _ | .lst _ => true
  | _ => false
def isIntB : D → Bool
  | .int _ => true
  | _ => false
def isNumB : D → Bool
  | .int i => decide (0 ≤ i)
  | _ => false
def isAmtB : D → Bool
  | .int i => decide (1 ≤ i)
  | _ => false
def RIi (f : D → Bool) : List D → D → Prop := fun ds d => ∃ x, ds = [x] ∧ Pln x = true ∧ d = .bl (f x)
theorem is_integer_rd : ∀ ds G Q E, pSp (RIi isIntB) ds G Q E → r_is_integer { nx := fun _ G' => Q .non G', rt := Q } (startD 1 ds) G := by
  rintro ds G Q E ⟨_, ⟨x, rfl, hx, rfl⟩, hq⟩
  unfold r_is_integer
  have hq' := hq G (Grow.refl G)
  cases x <;> first | (simp [Pln] at hx; done) | (walk_at "ds" <;> exact hq')
theorem is_number_rd : ∀ ds G Q E, pSp (RIi isNumB) ds G Q E → r_is_number (pSp (RIi isIntB)) { nx := fun _ G' => Q .non G', rt := Q } (startD 1 ds) G := by
  rintro ds G Q E ⟨_, ⟨x, rfl, hx, rfl⟩, hq⟩
  unfold r_is_number
  walk_at "ds"
  refine ⟨_, ⟨x, rfl, hx, rfl⟩, fun G1 g1 => ?_⟩
  have hq' := hq _ g1
  cases x <;> first | (simp [Pln] at hx; done) | (simp only [isIntB]; walk_at "ds"; exact hq')
theorem is_amount_rd : ∀ ds G Q E, pSp (RIi isAmtB) ds G Q E → r_is_amount (pSp (RIi isIntB)) { nx := fun _ G' => Q .non G', rt := Q } (startD 1 ds) G := by
  rintro ds G Q E ⟨_, ⟨x, rfl, hx, rfl⟩, hq⟩
  unfold r_is_amount
  walk_at "ds"
  refine ⟨_, ⟨x, rfl, hx, rfl⟩, fun G1 g1 => ?_⟩
  have hq' := hq _ g1
  cases x <;> first | (simp [Pln] at hx; done) | (simp only [isIntB]; walk_at "ds"; exact hq')
def alD : Wk → List D → Option (List Wk)
  | w, [] => some [w]
  | w, .int i :: xs => if 0 ≤ i then (match (innW w)[i.toNat]? with
    | some u => (alD u xs).map (w :: ·)
    | none => none) else none
  | _, _ :: _ => none
def waL (w : Wk) : D → Option (List Wk)
  | .tup xs => alD w xs
  | _ => none
structure WaOk (w : Wk) (x : D) : Prop where
  c : cW w ≤ 400
  pl : Pln x = true
  its : ∀ xs, x = .tup xs → (∀ y ∈ xs, Pln y = true) ∧ xs.length ≤ 1000
theorem waOk_path {w : Wk} {p : Pth} (h : cW w ≤ 400) (hp : p.length ≤ 1000) : WaOk w (pthD p) := ⟨h, rfl, fun xs e => by
  injection e with e; subst e
  exact ⟨fun y hy => by obtain ⟨k, -, rfl⟩ := List.mem_map.mp hy; rfl, by simpa using hp⟩⟩
theorem atI_last {α : Type} (xs : List α) (x : α) : atI (xs ++ [x]) (-1) = some x := by
  unfold atI ixN
  rw [if_neg (by decide), if_pos (by simp; omega)]
  have e : ((-1 : Int) + ((xs ++ [x]).length : Nat)).toNat = xs.length := by simp; omega
  show (xs ++ [x])[((-1 : Int) + ((xs ++ [x]).length : Nat)).toNat]? = some x
  rw [e]; simp
end K03

namespace K03
open PySem L2 Dl 
local macro_rules | `(tactic| walk_at "ds") => `(tactic| repeat' with_reducible first
  | refine iVar (by with_unfolding_all rfl) ?_
  | refine iCons ?_
  | refine iNil ?_
  | refine iC ?_
  | refine iOp ?_
  | refine iSeq ?_
  | refine iAsg ?_
  | refine iGNm ?_
  | refine iTst ?_
  | refine iIfS ?_
  | refine iRet ?_
  | refine iCall ?_
  | refine iNext ?_
  | refine isN_T ?_
  | refine isN_F (by with_unfolding_all rfl) ?_
  | refine iTru ?_
  | refine truB ?_
  | refine iAnd ?_
  | refine iOr ?_
  | refine iNot ?_
  | refine ifDT (by decide) ?_
  | refine ifDF (by decide) ?_
  | refine iIf ?_
  | refine ifT ?_
  | refine ifF ?_
  | refine iCB ?_
  | refine iIsi ?_
  | refine rIx_i (by with_unfolding_all rfl) (by with_unfolding_all rfl) ?_
  | refine rIx_i (by with_unfolding_all rfl) atI_0 ?_
  | refine eq_strT ?_
  | refine eq_strF (by with_unfolding_all rfl) ?_
  | refine eq_ii ?_
  | refine int0 ?_
  | refine len_t ?_
  | refine inn_T (by with_unfolding_all rfl) (by decide +kernel) (by decide +kernel) (by decide +kernel) ?_
  | refine inn_F (by with_unfolding_all rfl) (by decide +kernel) (by decide +kernel) (by decide +kernel) ?_
  | refine isi_T (by with_unfolding_all rfl) (by decide +kernel) ?_
  | refine isi_F (by with_unfolding_all rfl) (by decide +kernel) ?_
  | refine ifNT ?_
  | refine ifNF ?_
  | refine ifDT (by with_reducible_and_instances first | omega | (simp only [List.length_cons, List.length_nil]; omega)) ?_
  | refine ifDF (by with_reducible_and_instances first | omega | (simp only [List.length_cons, List.length_nil]; omega)) ?_
  | fail "stuck")
def wordW : Wk → String
  | .tick _ => "tick"
  | .sme _ _ _ => "some"
  | .lop _ _ _ _ => "loop"
  | .eit _ => "either"
  | .row _ => "row"
  | .bes _ _ => "beside"
def bads : List (D × Option String × String) := [(.non, none, "word"), (.int 0, none, "word"), (.tup [], none, "word"), (.tup [.str "tick", .int 0], some "tick", "number"), (.tup [.str "row", .non], some "row", "works"), (.lst [.str "tick", .int 1], none, "word"),
  (.tup [.str "either", .tup []], some "either", "works"), (.str "tick", none, "word"), (.tup [.str "loop", .int 2, .int 1, .bl true, .tup [.str "tick", .int 1]], some "loop", "bounds")]
abbrev WS : List (Str × Int) := [("tick", 2), ("some", 4), ("row", 2), ("loop", 5), ("either", 2), ("beside", 3)]
section
variable {ρ : DSt} {G : GH} {Q : DK} {i : Nat}
theorem inW_T {z : Str} (e : sl ρ i = some (.str z)) (e2 : (WS.lookup z).isSome = true) (h : Q (.bl true) G) : dInW id WS (dVar i) ρ G Q := by
  unfold dInW
  refine iVar e ⟨z, rfl, ?_⟩
  rw [e2]; exact h
theorem getW_i {z : Str} (k : Int) (e : sl ρ i = some (.str z)) (e2 : WS.lookup z = some k) (h : Q (.int k) G) : dGetW WS (dVar i) ρ G Q := by
  unfold dGetW
  exact iVar e ⟨z, k, rfl, e2, h⟩
end
def opD : Option String → D
  | some s => .str s
  | none => .non
def Rww : List D → D → Prop := fun ds d => (∃ w, ds = [toD w] ∧ d = .str (wordW w)) ∨ ∃ q ∈ bads, ds = [q.1] ∧ d = opD q.2.1
theorem work_word_rd : ∀ ds G Q E, pSp Rww ds G Q E → r_work_word { nx := fun _ G' => Q .non G', rt := Q } (startD 2 ds) G := by
  rintro ds G Q E ⟨_, h, hq⟩
  unfold r_work_word
  rcases h with ⟨w, rfl, rfl⟩ | ⟨q, hm, rfl, rfl⟩
  · have hq' := hq G (Grow.refl G)
    cases w <;> rw [toD] <;> walk_at "ds" <;> refine inW_T (by with_unfolding_all rfl) (by decide +kernel) ?_ <;> walk_at "ds"
    · refine getW_i 2 (by with_unfolding_all rfl) (by decide +kernel) ?_; walk_at "ds"; exact hq'
    · refine getW_i 4 (by with_unfolding_all rfl) (by decide +kernel) ?_; walk_at "ds"; exact hq'
    · refine getW_i 5 (by with_unfolding_all rfl) (by decide +kernel) ?_; walk_at "ds"; exact hq'
    · refine getW_i 2 (by with_unfolding_all rfl) (by decide +kernel) ?_; walk_at "ds"; exact hq'
    · refine getW_i 2 (by with_unfolding_all rfl) (by decide +kernel) ?_; walk_at "ds"; exact hq'
    · refine getW_i 3 (by with_unfolding_all rfl) (by decide +kernel) ?_; walk_at "ds"; exact hq'
  · have hq' := hq G (Grow.refl G)
    simp only [bads, List.mem_cons, List.not_mem_nil, or_false] at hm
    rcases hm with rfl | rfl | rfl | rfl | rfl | rfl | rfl | rfl | rfl
    · walk_at "ds"; exact hq'
    · walk_at "ds"; exact hq'
    · walk_at "ds"; exact hq'
    · walk_at "ds"; refine inW_T (by with_unfolding_all rfl) (by decide +kernel) ?_; walk_at "ds"; refine getW_i 2 (by with_unfolding_all rfl) (by decide +kernel) ?_; walk_at "ds"; exact hq'
    · walk_at "ds"; refine inW_T (by with_unfolding_all rfl) (by decide +kernel) ?_; walk_at "ds"; refine getW_i 2 (by with_unfolding_all rfl) (by decide +kernel) ?_; walk_at "ds"; exact hq'
    · walk_at "ds"; exact hq'
    · walk_at "ds"; refine inW_T (by with_unfolding_all rfl) (by decide +kernel) ?_; walk_at "ds"; refine getW_i 2 (by with_unfolding_all rfl) (by decide +kernel) ?_; walk_at "ds"; exact hq'
    · walk_at "ds"; exact hq'
    · walk_at "ds"; refine inW_T (by with_unfolding_all rfl) (by decide +kernel) ?_; walk_at "ds"; refine getW_i 5 (by with_unfolding_all rfl) (by decide +kernel) ?_; walk_at "ds"; exact hq'
def Rff : List D → D → Prop := fun ds d => (∃ w, ds = [toD w] ∧ okW 999 w ∧ d = .non) ∨ ∃ q ∈ bads, ds = [q.1] ∧ d = .str q.2.2
theorem form_fault_rd : ∀ ds G Q E, pSp Rff ds G Q E → r_form_fault (pSp (RIi isNumB)) (pSp (RIi isAmtB)) (pSp Rww) { nx := fun _ G' => Q .non G', rt := Q } (startD 2 ds) G := by
  rintro ds G Q E ⟨_, h, hq⟩
  unfold r_form_fault
  have num : ∀ (i : Int) (b : Bool) (G : GH) (K : DK), isNumB (.int i) = b → (∀ G', Grow G G' → K (.bl b) G') → pSp (RIi isNumB) [.int i] G K noX := fun i b G K e h => ⟨_, ⟨_, rfl, rfl, rfl⟩, fun G' g => by rw [e]; exact h G' g⟩
  rcases h with ⟨w, rfl, hok, rfl⟩ | ⟨q, hm, rfl, rfl⟩
  · walk_at "ds"
    refine ⟨_, .inl ⟨w, rfl, rfl⟩, fun G1 g1 => ?_⟩
    cases w with
    | tick n =>
      rw [okW] at hok
      rw [toD, wordW]
      walk_at "ds"
      refine ⟨_, ⟨_, rfl, rfl, rfl⟩, fun G2 g2 => ?_⟩
      simp only [isAmtB, decide_eq_true hok.1]
      walk_at "ds"
      exact hq _ (g1.trans g2)
    | sme a b t =>
      rw [okW] at hok
      rw [toD, wordW]
      walk_at "ds"
      refine num a true _ _ (decide_eq_true hok.1) fun G2 g2 => ?_
      walk_at "ds"
      refine num b true _ _ (decide_eq_true (by omega)) fun G3 g3 => ?_
      walk_at "ds"
      exact hq _ ((g1.trans g2).trans g3)
    | lop a b t u =>
      rw [okW] at hok
      rw [toD, wordW]
      walk_at "ds"
      refine num a true _ _ (decide_eq_true hok.1) fun G2 g2 => ?_
      walk_at "ds"
      refine num b true _ _ (decide_eq_true (by omega)) fun G3 g3 => ?_
      walk_at "ds"
      exact hq _ ((g1.trans g2).trans g3)
    | bes a b => rw [toD, wordW]; walk_at "ds"; exact hq _ g1
    | row ws => rw [toD, wordW]; walk_at "ds"; exact hq _ g1
    | eit ws =>
      rw [okW] at hok
      rw [toD, wordW]
      walk_at "ds"
      rw [toDs_len]
      have : 0 < ws.length := List.length_pos_iff.mpr hok.1
      walk_at "ds"
      exact hq _ g1
  · walk_at "ds"
    refine ⟨_, .inr ⟨q, hm, rfl, rfl⟩, fun G1 g1 => ?_⟩
    have hq' := hq G1 g1
    simp only [bads, List.mem_cons, List.not_mem_nil, or_false] at hm
    rcases hm with rfl | rfl | rfl | rfl | rfl | rfl | rfl | rfl | rfl <;> dsimp only [opD] at hq' ⊢ <;> walk_at "ds"
    · exact hq'
    · exact hq'
    · exact hq'
    · refine ⟨_, ⟨_, rfl, rfl, rfl⟩, fun G2 g2 => ?_⟩
      rw [show isAmtB (.int 0) = false from rfl]
      walk_at "ds"
      exact hq _ (g1.trans g2)
    · exact hq'
    · exact hq'
    · exact hq'
    · exact hq'
    · refine num 2 true _ _ rfl fun G2 g2 => ?_
      walk_at "ds"
      refine num 1 true _ _ rfl fun G3 g3 => ?_
      walk_at "ds"
      exact hq _ ((g1.trans g2).trans g3)
end K03

namespace K03
open PySem L2 Dl 
local macro_rules | `(tactic| walk_at "ds") => `(tactic| repeat' with_reducible first
  | refine iVar (by with_unfolding_all rfl) ?_
  | refine iCons ?_
  | refine iNil ?_
  | refine iC ?_
  | refine iOp ?_
  | refine iSeq ?_
  | refine iAsg ?_
  | refine iGNm ?_
  | refine iTup ?_
  | refine iFrz ?_
  | refine iTst ?_
  | refine iIfS ?_
  | refine iRet ?_
  | refine iCall ?_
  | refine iLst ?_
  | refine iNext ?_
  | refine iXPe ?_
  | refine iXPa ?_
  | refine iXPs ?_
  | refine iXSeq ?_
  | refine iXDrop ?_
  | refine iXRet ?_
  | refine iXAsg ?_
  | refine iXOp ?_
  | refine iXCall ?_
  | refine iNeg ?_
  | refine lstP_i (by assumption) ?_
  | refine lstP_i updG_same ?_
  | refine isN_T ?_
  | refine isN_F (by with_unfolding_all rfl) ?_
  | refine iRev ?_
  | refine revL ?_
  | refine iDrop ?_
  | refine iGTp (by with_unfolding_all rfl) ?_
  | refine iGsCons ?_
  | refine iGsNil ?_
  | refine lenOk (by with_unfolding_all rfl) ?_
  | refine frzEnd ?_
  | refine ifT ?_
  | refine ifF ?_
  | refine iCB ?_
  | refine iMt ?_
  | refine iSl ?_
  | refine iP ?_
  | refine iNoP ?_
  | refine rIx_i (by with_unfolding_all rfl) (by with_unfolding_all rfl) ?_
  | refine rIx_i (by with_unfolding_all rfl) atI_0 ?_
  | refine int0 ?_
  | fail "stuck")
theorem isNot_T {d : D} {G : GH} {Q : DK} (e : isNonD d = false) (h : Q (.bl true) G) : rIsN not d .non G Q := by
  show Q (.bl (not (isNonD d))) G
  rw [e]; exact h
theorem isNot_F {G : GH} {Q : DK} (h : Q (.bl false) G) : rIsN not .non .non G Q := h
def Rwf : List D → D → Prop := fun ds d => (∃ w, ds = [toD w] ∧ okW 999 w ∧ cW w ≤ 400 ∧ dW w ≤ 400 ∧ d = .non) ∨ ∃ q ∈ bads, ds = [q.1] ∧ d = .tup [.str q.2.2, .tup []]
theorem work_fault_rd : ∀ ds G Q E, pSp Rwf ds G Q E → r_work_fault (pSp Rip) (pSp Rff) { nx := fun _ G' => Q .non G', rt := Q } (startD 5 ds) G := by
  rintro ds G Q E ⟨_, h, hq⟩
  unfold r_work_fault
  have hz : (2000 : Nat) ≤ sizeLine := by decide
  rcases h with ⟨w, rfl, hok, hc, hd, rfl⟩ | ⟨z, hm, rfl, rfl⟩
  · walk_at "ds"
    intro q hqn
    walk_at "ds"
    refine dWhile_of (I := fun n ρ G' => ∃ x2 x3 x4 done V, ρ = [some (toD w), some (.ref q), x2, x3, x4] ∧ G' q = some (.lst (V.map prD)) ∧ done ++ lotW V = preW [] w ∧ (lotW V).length = n ∧ Grow G G') ?_ (lotW [([], w)]).length _ _
      ⟨_, _, _, [], [([], w)], rfl, by rw [updG_same]; rfl, by rw [lotW_one]; rfl, rfl, Grow.upd hqn⟩
    rintro n ρ G1 ⟨x2, x3, x4, done, V, rfl, eq, eD, en, g1⟩ K hK
    walk_at "ds"
    refine len_r eq ?_
    walk_at "ds"
    rw [List.length_map]
    have tot : done.length + n = cW w := by rw [← pre_len w [], ← eD, List.length_append, en]
    have hV := lotW_ge V
    refine ifD (fun h => ?_) (fun h => ?_)
    · rcases List.eq_nil_or_concat V with rfl | ⟨V', ⟨p, u⟩, rfl⟩
      · simp at h
      rw [List.concat_eq_append] at eq eD en hV
      rw [List.map_append] at eq
      have hm : (p, u) ∈ preW [] w := by rw [← eD, lotW_pop]; simp
      have hpl := pre_plen hm
      have hcu : cW u ≤ cW w := pre_ind (P := fun u => cW u ≤ cW w) (fun a b h hb => by have := inn_c hb; omega) (Nat.le_refl _) hm
      have hou : okW 999 u := pre_ind (P := fun u => okW 999 u) (fun a b h hb => inn_ok h hb) hok hm
      have hiu := inn_len u
      walk_at "ds"
      refine pop_i eq ?_
      rw [show prD (p, u) = D.tup [pthD p, toD u] from rfl]
      walk_at "ds"
      refine ⟨_, .inl ⟨u, rfl, hou, rfl⟩, fun G2 g2 => ?_⟩
      have e2 : G2 q = some (.lst (V'.map prD)) := g2 _ _ (by rw [updG_same])
      walk_at "ds"
      refine isNot_F ?_
      walk_at "ds"
      refine ⟨_, ⟨p, u, rfl, by simp at hpl; omega, by omega, rfl⟩, fun G3 g3 => ?_⟩
      walk_at "ds"
      have hvl : V'.length + 1 ≤ n := by simp at hV; omega
      refine ext_i (m := ((prsW p u).map prD).reverse) (g3 _ _ e2) rfl (by simp [prsW_len]; omega) ?_
      walk_at "ds"
      refine hK ((lotW (V' ++ (prsW p u).reverse)).length) (by rw [lotW_pop] at en; simp at en; exact en) _ _ ⟨_, _, _, done ++ [(p, u)], V' ++ (prsW p u).reverse, rfl, by rw [updG_same]; simp, by rw [← eD, lotW_pop]; simp, rfl, ?_⟩
      exact Grow.upd2 hqn (((Grow.upd2 hqn g1).trans g2).trans g3)
    · have hv0 : V = [] := by cases V with
        | nil => rfl
        | cons a t => simp at h
      subst hv0
      walk_at "ds"
      exact hq _ g1
  · walk_at "ds"
    intro q hqn
    walk_at "ds"
    refine dWhile_of (I := fun n ρ G' => ∃ x2 x3 x4, ρ = [some z.1, some (.ref q), x2, x3, x4] ∧ G' q = some (.lst ([] ++ [D.tup [.tup [], z.1]])) ∧ Grow G G') ?_ 0 _ _
      ⟨_, _, _, rfl, by rw [updG_same]; rfl, Grow.upd hqn⟩
    rintro n ρ G1 ⟨x2, x3, x4, rfl, eq, g1⟩ K hK
    walk_at "ds"
    refine len_r eq ?_
    walk_at "ds"
    refine ifD (fun h => ?_) (fun h => absurd (by simp) h)
    walk_at "ds"
    refine pop_i eq ?_
    walk_at "ds"
    refine ⟨_, .inr ⟨z, hm, rfl, rfl⟩, fun G2 g2 => ?_⟩
    walk_at "ds"
    refine isNot_T rfl ?_
    walk_at "ds"
    exact hq _ ((Grow.upd2 hqn g1).trans g2)
def Riw : List D → D → Prop := fun ds d => (∃ w, ds = [toD w] ∧ okW 999 w ∧ cW w ≤ 400 ∧ dW w ≤ 400 ∧ d = .bl true) ∨ ∃ q ∈ bads, ds = [q.1] ∧ d = .bl false
theorem is_work_rd : ∀ ds G Q E, pSp Riw ds G Q E → r_is_work (pSp Rwf) { nx := fun _ G' => Q .non G', rt := Q } (startD 1 ds) G := by
  rintro ds G Q E ⟨_, h, hq⟩
  unfold r_is_work
  rcases h with ⟨w, rfl, hok, hc, hd, rfl⟩ | ⟨z, hm, rfl, rfl⟩
  · walk_at "ds"
    refine ⟨_, .inl ⟨w, rfl, hok, hc, hd, rfl⟩, fun G1 g1 => ?_⟩
    walk_at "ds"
    exact hq _ g1
  · walk_at "ds"
    refine ⟨_, .inr ⟨z, hm, rfl, rfl⟩, fun G1 g1 => ?_⟩
    walk_at "ds"
    exact hq _ g1
theorem cut_last (l : List D) (d : D) : cutD (l ++ [d]) none (some (-1)) = l := by
  unfold cutD HT.sIx
  simp
  have : ((-1 : Int) + ((l.length : Int) + 1)).toNat = l.length := by omega
  rw [this]; simp
theorem along_snoc {w : Wk} {p : Pth} {l : List Wk} (e : alongW w p = some l) : ∃ L u, l = L ++ [u] := by
  have h := along_len p w l e
  rcases List.eq_nil_or_concat l with rfl | ⟨L, u, rfl⟩
  · simp at h
  · exact ⟨L, u, List.concat_eq_append⟩
end K03

namespace K03
open PySem L2 Dl 
local macro_rules | `(tactic| walk_at "ds") => `(tactic| repeat' with_reducible first
  | refine iVar (by with_unfolding_all rfl) ?_
  | refine iCons ?_
  | refine iNil ?_
  | refine iC ?_
  | refine iOp ?_
  | refine iSeq ?_
  | refine iAsg ?_
  | refine iGNm ?_
  | refine iTup ?_
  | refine iFrz ?_
  | refine iTst ?_
  | refine iIfS ?_
  | refine iRet ?_
  | refine iLst ?_
  | refine iNext ?_
  | refine iXPe ?_
  | refine iXRet ?_
  | refine iXCons ?_
  | refine iXTup ?_
  | refine iDSeqTry ?_
  | refine iIsX ?_
  | refine iExf ?_
  | refine iXAct (by with_unfolding_all rfl) ?_
  | refine lstP_i (by assumption) ?_
  | refine lstP_i updG_same ?_
  | refine iDrop ?_
  | refine lenOk (by with_unfolding_all rfl) ?_
  | refine frzEnd ?_
  | refine iTru ?_
  | refine truB ?_
  | refine iAnd ?_
  | refine iOr ?_
  | refine iIf ?_
  | refine ifT ?_
  | refine ifF ?_
  | refine iMt ?_
  | refine ifNT ?_
  | fail "stuck")
theorem cWs_set : ∀ {ws : List Wk} {k : Nat} {u : Wk} (x : Wk), ws[k]? = some u → cWs (ws.set k x) + cW u = cWs ws + cW x
  | [], k, u, x, h => by simp at h
  | w :: ws, 0, u, x, h => by simp at h; subst h; simp [cWs]; omega
  | w :: ws, k + 1, u, x, h => by
    have := cWs_set (k := k) x (show ws[k]? = some u by simpa using h)
    simp [cWs]; omega
theorem dWs_set : ∀ (ws : List Wk) (k : Nat) (x : Wk), dWs (ws.set k x) ≤ max (dWs ws) (dW x)
  | [], k, x => by simp [dWs]
  | w :: ws, 0, x => by simp [dWs]; omega
  | w :: ws, k + 1, x => by have := dWs_set ws k x; simp [dWs]; omega
theorem okWs_set {B : Int} : ∀ (ws : List Wk) (k : Nat) {x : Wk}, okWs B ws → okW B x → okWs B (ws.set k x)
  | [], k, x, h, hx => by simp [okWs]
  | w :: ws, 0, x, h, hx => by rw [okWs] at h; simp only [List.set_cons_zero, okWs]; exact ⟨hx, h.2⟩
  | w :: ws, k + 1, x, h, hx => by rw [okWs] at h; simp only [List.set_cons_succ, okWs]; exact ⟨h.1, okWs_set ws k h.2 hx⟩
theorem setW_ok {B : Int} {w u x : Wk} {k : Nat} (h : okW B w) (e : (innW w)[k]? = some u) (hx : okW B x) : okW B (setW w k x) := by
  cases w with
  | tick n => simp [innW] at e
  | sme a b t => simp [innW] at e
  | lop a b t v => rw [okW] at h; rw [setW, okW]; exact ⟨h.1, h.2.1, h.2.2.1, hx⟩
  | eit ws =>
    rw [okW] at h; rw [setW, okW]
    refine ⟨?_, okWs_set ws k h.2 hx⟩
    have := h.1
    cases ws with
    | nil => exact absurd rfl this
    | cons a t => cases k <;> simp
  | row ws => rw [okW] at h; rw [setW, okW]; exact okWs_set ws k h hx
  | bes a b =>
    rw [okW] at h
    cases k with
    | zero => rw [setW, okW]; exact ⟨hx, h.2⟩
    | succ k => simp only [setW, okW]; exact ⟨h.1, hx⟩
theorem setW_c {w u x : Wk} {k : Nat} (e : (innW w)[k]? = some u) : cW (setW w k x) + cW u = cW w + cW x := by
  cases w with
  | tick n => simp [innW] at e
  | sme a b t => simp [innW] at e
  | lop a b t v =>
    have : k = 0 := by have := (List.getElem?_eq_some_iff.mp e).1; simp [innW] at this; omega
    subst this
    simp [innW] at e; subst e
    simp [setW, cW]; omega
  | eit ws => have := cWs_set x e; simp only [innW, setW, cW] at *; omega
  | row ws => have := cWs_set x e; simp only [innW, setW, cW] at *; omega
  | bes a b =>
    have h2 := (List.getElem?_eq_some_iff.mp e).1
    simp [innW] at h2
    obtain rfl | rfl : k = 0 ∨ k = 1 := by omega
    · simp [innW] at e; subst e; simp [setW, cW]; omega
    · simp [innW] at e; subst e; simp [setW, cW]; omega
theorem setW_d (w x : Wk) (k : Nat) : dW (setW w k x) ≤ max (dW w) (1 + dW x) := by
  cases w with
  | tick n => simp [setW, dW]
  | sme a b t => simp [setW, dW]
  | lop a b t v => simp [setW, dW]; omega
  | eit ws => have := dWs_set ws k x; simp only [setW, dW]; omega
  | row ws => have := dWs_set ws k x; simp only [setW, dW]; omega
  | bes a b => cases k <;> simp [setW, dW] <;> omega
theorem putW_g {n d n' d' : Nat} {x : Wk} (hx : Gw x n' d') : ∀ (p : Pth) (w : Wk) (l : List Wk), Gw w n d → alongW w p = some l → Gw (putW x w p) (n + n') (d + d')
  | [], w, l, h, e => by rw [putW]; exact hx.up (by omega) (by omega)
  | k :: r, w, l, h, e => by
    obtain ⟨u, l', hv, e', rfl, hne⟩ := along_cons e
    have hu := List.mem_of_getElem? hv
    have i1 := putW_g (n := cW u) (d := dW u) hx r u l' ⟨inn_ok h.ok hu, Nat.le_refl _, Nat.le_refl _⟩ e'
    have ep : putW x w (k :: r) = setW w k (putW x u r) := by rw [putW, hv]
    rw [ep]
    refine ⟨setW_ok h.ok hv i1.ok, ?_, ?_⟩
    · have := setW_c (x := putW x u r) hv
      have := i1.c
      have := h.c
      omega
    · have := setW_d w (putW x u r) k
      have := i1.d
      have := inn_d hu
      have := h.d
      have := dW_pos x
      omega
theorem seq_toD (w : Wk) : isSeqD (toD w) = true := by cases w <;> rw [toD] <;> rfl
theorem Gw.sm {w : Wk} {n d : Nat} (h : Gw w n d) : smD (toD w) = true := sm_toD (by decide) w h.ok
theorem Gw.dp {w : Wk} {n d : Nat} (h : Gw w n d) : depD (toD w) ≤ 2 * d := by rw [dep_toD]; have := dpW2 w; have := h.d; omega
theorem Gw.wt {w : Wk} {n d : Nat} (h : Gw w n d) : wtD (toD w) ≤ 100 * n := by have := wtW w; have := h.c; omega
theorem p20 : (2 : Nat) ^ 20 = 1048576 := by decide
theorem Gw.shw {w : Wk} {n d : Nat} (h : Gw w n d) (hn : n ≤ 1000) (hd : d ≤ 30) : Shw (toD w) := by
  refine shw_of (seq_toD w) h.sm (by have := h.dp; omega) ?_
  have := h.wt
  rw [p20]; omega
theorem Gw.okd {w : Wk} {n d : Nat} (h : Gw w n d) (hd : d ≤ 30) : okD (toD w) := okD_of h.sm (by have := h.dp; omega)
end K03

namespace K03
open PySem L2 Dl 
local macro_rules | `(tactic| walk_at "ds") => `(tactic| repeat' with_reducible first
  | refine iVar (by with_unfolding_all rfl) ?_
  | refine iCons ?_
  | refine iNil ?_
  | refine iC ?_
  | refine iOp ?_
  | refine iSeq ?_
  | refine iAsg ?_
  | refine iGNm ?_
  | refine iTup ?_
  | refine iFrz ?_
  | refine iTst ?_
  | refine iIfS ?_
  | refine iRet ?_
  | refine iCall ?_
  | refine iLst ?_
  | refine iNext ?_
  | refine iGTp (by with_unfolding_all rfl) ?_
  | refine iGsCons ?_
  | refine iGsNil ?_
  | refine lenOk (by with_unfolding_all rfl) ?_
  | refine frzEnd ?_
  | refine ifF ?_
  | refine iCB ?_
  | refine iFor ?_
  | refine iISq ?_
  | refine ne_strT ?_
  | refine len_l ?_
  | refine tupC_l ?_
  | fail "stuck")
def RPt : List D → D → Prop := fun ds d => ∃ w p L u, ds = [toD w, pthD p] ∧ cW w ≤ 400 ∧ p.length ≤ 1000 ∧ alongW w p = some (L ++ [u]) ∧ d = toD u
def RWp : List D → D → Prop := fun ds d => ∃ w p l v, ds = [toD w, pthD p, toD v] ∧ cW w ≤ 400 ∧ p.length ≤ 1000 ∧ alongW w p = some l ∧ okW 999 v ∧ cW v ≤ 400 ∧ dW v ≤ 400 ∧ d = toD (putW v w p)
theorem repr_s {x : D} {G : GH} {Q : DK} (e : Shw x) (h : Q (.str (shD x)) G) : rRepr [x] G Q := by
  show Shw (vw G x) ∧ Q (.str (shD (vw G x))) G
  rw [vw_of e.ok.1]; exact ⟨e, h⟩
end K03

namespace K03
open PySem L2 Dl 
local macro_rules | `(tactic| walk_at "ds") => `(tactic| repeat' with_reducible first
  | refine iVar (by with_unfolding_all rfl) ?_
  | refine iCons ?_
  | refine iNil ?_
  | refine iC ?_
  | refine iOp ?_
  | refine iSeq ?_
  | refine iAsg ?_
  | refine iGNm ?_
  | refine iTup ?_
  | refine iFrz ?_
  | refine iTst ?_
  | refine iRet ?_
  | refine iLst ?_
  | refine iNeg ?_
  | refine lstP_i (by assumption) ?_
  | refine lstP_i updG_same ?_
  | refine iDrop ?_
  | refine lenOk (by with_unfolding_all rfl) ?_
  | refine frzEnd ?_
  | refine lstC_t ?_
  | refine iCB ?_
  | refine iMt ?_
  | refine iFor ?_
  | refine iISq ?_
  | fail "stuck")
structure StOk (w : Wk) (y : D) : Prop where
  sh : ShwA y
  wa : WaOk w y
  no : waL w y = none ∨ ∃ p, y = pthD p
end K03

namespace K03
open PySem L2 Dl 
local macro_rules | `(tactic| walk_at "ds") => `(tactic| repeat' with_reducible first
  | refine iVar (by with_unfolding_all rfl) ?_
  | refine iCons ?_
  | refine iNil ?_
  | refine iC ?_
  | refine iOp ?_
  | refine iSeq ?_
  | refine iAsg ?_
  | refine iGNm ?_
  | refine iTup ?_
  | refine iFrz ?_
  | refine iTst ?_
  | refine iIfS ?_
  | refine iRet ?_
  | refine iCall ?_
  | refine iLst ?_
  | refine iNext ?_
  | refine iXPa ?_
  | refine iXCall ?_
  | refine iNeg ?_
  | refine lstP_i (by assumption) ?_
  | refine lstP_i updG_same ?_
  | refine iDrop ?_
  | refine lenOk (by with_unfolding_all rfl) ?_
  | refine frzEnd ?_
  | refine iMt ?_
  | refine iFor ?_
  | refine iISq ?_
  | refine rIx_i (by with_unfolding_all rfl) (by with_unfolding_all rfl) ?_
  | refine rIx_i (by with_unfolding_all rfl) atI_0 ?_
  | refine add_llb (by with_unfolding_all rfl) ?_
  | refine ifNT ?_
  | fail "stuck")
end K03

namespace K03
open PySem L2 Dl 
local macro_rules | `(tactic| walk_at "ds") => `(tactic| repeat' with_reducible first
  | refine iVar (by with_unfolding_all rfl) ?_
  | refine iCons ?_
  | refine iNil ?_
  | refine iC ?_
  | refine iOp ?_
  | refine iSeq ?_
  | refine iAsg ?_
  | refine iGNm ?_
  | refine iTup ?_
  | refine iFrz ?_
  | refine iTst ?_
  | refine iIfS ?_
  | refine iRet ?_
  | refine iCall ?_
  | refine iLst ?_
  | refine iNext ?_
  | refine lenOk (by with_unfolding_all rfl) ?_
  | refine frzEnd ?_
  | refine iIf ?_
  | refine iCB ?_
  | refine rIx_i (by with_unfolding_all rfl) (by with_unfolding_all rfl) ?_
  | refine rIx_i (by with_unfolding_all rfl) atI_0 ?_
  | refine eq_ii ?_
  | refine add_ii ?_
  | refine int0 ?_
  | refine tupC_l ?_
  | refine iIRg1 ?_
  | refine add_ttb (by with_unfolding_all rfl) ?_
  | fail "stuck")
theorem pick_int (l : List Int) (P : Int → Prop) {r : Int} {G : GH} {Q : DK} (h0 : 0 ≤ r) (h1 : r < (l.length : Int)) (hl : ∀ x ∈ l, P x) (h : ∀ x, P x → Q (.int x) G) : rIx (.lst (l.map D.int)) (.int r) G Q := by
  obtain ⟨j, rfl⟩ : ∃ j : Nat, r = (j : Nat) := ⟨r.toNat, by omega⟩
  have hj : j < l.length := by omega
  refine rIx_i (d := .int l[j]) rfl (Dl.atI_nat (by rw [List.getElem?_map, List.getElem?_eq_getElem hj]; rfl)) ?_
  exact h _ (hl _ (List.getElem_mem hj))
def spBnd : DSp := fun ds G Q _ => ∃ a, ds = [.ref a] ∧ FeedOk G a ∧ ∀ (x y : Int) (t : Bool) G', 0 ≤ x → x ≤ y → y ≤ 12 → FeedOk G' a → KeepX a G G' → Q (.tup [.int x, .int y, .bl t]) G'
theorem law_bounds_rd : ∀ ds G Q E, spBnd ds G Q E → r_law_bounds spDraw { nx := fun _ G' => Q .non G', rt := Q } (startD 2 ds) G := by
  rintro ds G Q E ⟨a, rfl, hf, hq⟩
  unfold r_law_bounds
  walk_at "ds"
  refine ⟨a, 5, rfl, by decide, by decide, hf, fun r G1 r0 r1 f1 k1 => ?_⟩
  refine pick_int [0, 1, 1, 2, 5] (fun x => 0 ≤ x ∧ x ≤ 5) r0 r1 (by decide) fun x hx => ?_
  walk_at "ds"
  refine ⟨a, 4, rfl, by decide, by decide, f1, fun s G2 s0 s1 f2 k2 => ?_⟩
  refine pick_int [0, 1, 2, 7] (fun x => 0 ≤ x ∧ x ≤ 7) s0 s1 (by decide) fun y hy => ?_
  walk_at "ds"
  refine ⟨a, 2, rfl, by decide, by decide, f2, fun t G3 t0 t1 f3 k3 => ?_⟩
  walk_at "ds"
  exact hq x (x + y) (decide (t = 0)) _ hx.1 (by omega) (by omega) f3 ((k1.trans k2).trans k3)
def szF : Nat → Nat
  | 0 => 1
  | n + 1 => 1 + 3 * szF n
theorem szF_pos (n : Nat) : 1 ≤ szF n := by cases n <;> rw [szF] <;> omega
structure FwOk (m : Nat) (w : Wk) : Prop where
  ok : okW 999 w
  c : cW w ≤ szF m
  d : dW w ≤ m + 1
def spFW (n : Nat) : DSp := fun ds G Q _ => ∃ a m, ds = [.ref a, .int (m : Nat)] ∧ m < n ∧ m ≤ 3 ∧ FeedOk G a ∧ ∀ w G', FwOk m w → FeedOk G' a → KeepX a G G' → Q (toD w) G'
theorem fw_many {m : Nat} : ∀ {ws : List Wk}, (∀ w ∈ ws, FwOk m w) → okWs 999 ws ∧ cWs ws ≤ ws.length * szF m ∧ dWs ws ≤ m + 1
  | [], _ => ⟨trivial, by simp [cWs], by simp [dWs]⟩
  | w :: ws, h => by
    obtain ⟨h1, h2, h3⟩ := fw_many (ws := ws) fun v hv => h v (List.mem_cons_of_mem _ hv)
    have hw := h w (List.mem_cons_self ..)
    refine ⟨⟨hw.ok, h1⟩, ?_, ?_⟩
    · have := hw.c; rw [cWs, List.length_cons, Nat.succ_mul]; omega
    · have := hw.d; rw [dWs]; omega
theorem fw_lc {n m : Nat} {a : Addr} {sz : Int} {x2 x4 : Option D} {G : GH} {K : DK} (hm : m < n) (hm3 : m ≤ 3) (hf : FeedOk G a) (h0 : 0 ≤ sz) (h1 : sz ≤ 3)
    (hK : ∀ ws G', (∀ w ∈ ws, FwOk m w) → ws.length = sz.toNat → FeedOk G' a → KeepX a G G' → K (.lst (toDs ws)) G') :
    dLc (iRg1 (dCons (dVar 3) dNil)) (.one 5) dYes (dCall (spFW n) (dCons (dVar 0) (dCons (dOp rSub (dVar 1) (dC (.int 1))) dNil))) [5] [some (.ref a), some (.int ((m + 1 : Nat) : Int)), x2, some (.int sz), x4, none] G (frzK K) := by
  refine iLc ?_
  walk_at "ds"
  refine ⟨by omega, by omega, ?_⟩
  intro p hp
  have hpa : a ≠ p := hf.ne hp
  have hz : (2000 : Nat) ≤ sizeLine := by decide
  refine dLcGo_of (I := fun rest acc G' => ∃ ws, acc = toDs ws ∧ (∀ w ∈ ws, FwOk m w) ∧ ws.length + rest.length = sz.toNat ∧ FeedOk G' a ∧ KeepX a G G' ∧ G' p = some (.lst acc)) ?_ ?_ _ [] _ ?_
  · rintro acc G' ⟨ws, rfl, hw, hl, f, k, ep⟩
    refine ⟨trivial, frzR ep ?_⟩
    refine hK ws _ hw (by simpa using hl) ?_ ?_
    · obtain ⟨c, x, y, z, e⟩ := f; exact ⟨c, x, y, z, by rw [dropG_ne hpa]; exact e⟩
    · intro c o n1 e
      have hc : c ≠ p := by rintro rfl; rw [hp] at e; cases e
      rw [dropG_ne hc]; exact k c o n1 e
  · rintro x xs acc G' ⟨ws, rfl, hw, hl, f, k, ep⟩
    refine ⟨trivial, _, rfl, fun K2 hK2 => ?_⟩
    rw [List.length_cons] at hl
    walk_at "ds"
    refine ⟨a, m, by rw [show ((m + 1 : Nat) : Int) - 1 = (m : Nat) from by omega], hm, hm3, f, fun w G2 jw f2 k2 => ?_⟩
    refine hK2 _ G2 (k2 _ _ hpa.symm ep) (by rw [toDs_len]; omega) ⟨ws ++ [w], by rw [toDs_app, toDs, toDs], ?_, by rw [List.length_append, List.length_singleton]; omega, ?_, ?_, updG_same⟩
    · intro v hv
      rcases List.mem_append.mp hv with q | q
      · exact hw v q
      · rw [List.mem_singleton] at q; subst q; exact jw
    · obtain ⟨c, x, y, z, e⟩ := f2; exact ⟨c, x, y, z, by rw [updG_ne hpa]; exact e⟩
    · intro c o n1 e
      have hc : c ≠ p := by rintro rfl; rw [hp] at e; cases e
      rw [updG_ne hc]; exact k2 c o n1 (k c o n1 e)
  · refine ⟨[], by rw [toDs], (fun w hw => by cases hw), by simp [rngD], ?_, ?_, updG_same⟩
    · obtain ⟨c, x, y, z, e⟩ := hf; exact ⟨c, x, y, z, by rw [updG_ne hpa]; exact e⟩
    · intro c o n1 e
      have hc : c ≠ p := by rintro rfl; rw [hp] at e; cases e
      rw [updG_ne hc]; exact e
theorem law_free_work_rd {n : Nat} : ∀ ds G Q E, spFW (n + 1) ds G Q E → r_law_free_work (spFW n) spDraw spBnd { nx := fun _ G' => Q .non G', rt := Q } (startD 6 ds) G := by
  rintro ds G Q E ⟨a, m, rfl, hm, hm3, hf, hq⟩
  unfold r_law_free_work
  refine seqC (fun ρ G1 => ∃ r : Int, ρ = [some (.ref a), some (.int (m : Nat)), some (.int r), none, none, none] ∧ 0 ≤ r ∧ r < 9 ∧ (r < 4 ∨ 0 < m) ∧ FeedOk G1 a ∧ KeepX a G G1) ?_ ?_
  · intro K hK
    walk_at "ds"
    refine ifD (fun h => ?_) (fun h => ?_)
    · walk_at "ds"
      refine ⟨a, 9, rfl, by decide, by decide, hf, fun r G1 r0 r1 f1 k1 => ?_⟩
      walk_at "ds"
      exact hK _ _ ⟨r, rfl, r0, r1, .inr (by omega), f1, k1⟩
    · walk_at "ds"
      refine ⟨a, 4, rfl, by decide, by decide, hf, fun r G1 r0 r1 f1 k1 => ?_⟩
      walk_at "ds"
      exact hK _ _ ⟨r, rfl, r0, by omega, .inl r1, f1, k1⟩
  rintro ρ G1 ⟨r, rfl, r0, r9, hr, f1, k1⟩
  have hs := szF_pos m
  walk_at "ds"
  refine ifD (fun h2 => ?_) (fun h2 => ?_)
  · walk_at "ds"
    refine ⟨a, 4, rfl, by decide, by decide, f1, fun s G2 s0 s1 f2 k2 => ?_⟩
    refine pick_int [0, 1, 2, 11] (fun x => 0 ≤ x ∧ x ≤ 11) s0 s1 (by decide) fun x hx => ?_
    walk_at "ds"
    exact hq (.tick (1 + x)) _ ⟨by rw [okW]; omega, by rw [cW]; omega, by rw [dW]; omega⟩ f2 (k1.trans k2)
  walk_at "ds"
  refine ifD (fun h4 => ?_) (fun h4 => ?_)
  · walk_at "ds"
    refine ⟨a, rfl, f1, fun x y t G2 hx hy hz f2 k2 => ?_⟩
    walk_at "ds"
    exact hq (.sme x y t) _ ⟨by rw [okW]; omega, by rw [cW]; omega, by rw [dW]; omega⟩ f2 (k1.trans k2)
  obtain ⟨m, rfl⟩ : ∃ m', m = m' + 1 := ⟨m - 1, by omega⟩
  have em : ((m + 1 : Nat) : Int) - 1 = (m : Nat) := by omega
  rw [szF] at hs
  walk_at "ds"
  refine ifD (fun h6 => ?_) (fun h6 => ?_)
  · walk_at "ds"
    refine ⟨a, rfl, f1, fun x y t G2 hx hy hz f2 k2 => ?_⟩
    walk_at "ds"
    refine ⟨a, m, by rw [em], by omega, by omega, f2, fun w G3 hw f3 k3 => ?_⟩
    walk_at "ds"
    exact hq (.lop x y t w) _ ⟨by rw [okW]; exact ⟨hx, hy, by omega, hw.ok⟩, by have := hw.c; rw [cW, szF]; omega, by have := hw.d; rw [dW]; omega⟩ f3 ((k1.trans k2).trans k3)
  walk_at "ds"
  refine ifD (fun h8 => ?_) (fun h8 => ?_)
  · walk_at "ds"
    refine ⟨a, m, by rw [em], by omega, by omega, f1, fun v G2 hv f2 k2 => ?_⟩
    walk_at "ds"
    refine ⟨a, m, by rw [em], by omega, by omega, f2, fun w G3 hw f3 k3 => ?_⟩
    walk_at "ds"
    exact hq (.bes v w) _ ⟨by rw [okW]; exact ⟨hv.ok, hw.ok⟩, by have := hw.c; have := hv.c; rw [cW, szF]; omega, by have := hw.d; have := hv.d; rw [dW]; omega⟩ f3 ((k1.trans k2).trans k3)
  refine iNext ?_
  dsimp only
  refine seqC (fun ρ G2 => ∃ sz : Int, ρ = [some (.ref a), some (.int ((m + 1 : Nat) : Int)), some (.int r), some (.int sz), none, none] ∧ 0 ≤ sz ∧ sz ≤ 3 ∧ (r = 6 ∨ r = 7 ∧ 1 ≤ sz) ∧ FeedOk G2 a ∧ KeepX a G G2) ?_ ?_
  · intro K hK
    walk_at "ds"
    refine ifD (fun h => ?_) (fun h => ?_)
    · walk_at "ds"
      refine ⟨a, 4, rfl, by decide, by decide, f1, fun s G2 s0 s1 f2 k2 => ?_⟩
      walk_at "ds"
      exact hK _ _ ⟨s, rfl, s0, by omega, .inl h, f2, k1.trans k2⟩
    · walk_at "ds"
      refine ⟨a, 3, rfl, by decide, by decide, f1, fun s G2 s0 s1 f2 k2 => ?_⟩
      walk_at "ds"
      exact hK _ _ ⟨1 + s, rfl, by omega, by omega, .inr ⟨by omega, by omega⟩, f2, k1.trans k2⟩
  rintro ρ G2 ⟨sz, rfl, z0, z3, hrr, f2, k2⟩
  walk_at "ds"
  refine fw_lc (by omega) (by omega) f2 z0 z3 fun ws G3 hws hl f3 k3 => ?_
  obtain ⟨o1, o2, o3⟩ := fw_many hws
  have hmul : ws.length * szF m ≤ 3 * szF m := Nat.mul_le_mul_right _ (by omega)
  walk_at "ds"
  rcases hrr with rfl | ⟨rfl, hsz⟩
  · refine rIx_i (d := .str "row") rfl (by with_unfolding_all rfl) ?_
    walk_at "ds"
    exact hq (.row ws) _ ⟨by rw [okW]; exact o1, by rw [cW, szF]; omega, by rw [dW]; omega⟩ f3 (k2.trans k3)
  · refine rIx_i (d := .str "either") rfl (by with_unfolding_all rfl) ?_
    walk_at "ds"
    exact hq (.eit ws) _ ⟨by rw [okW]; exact ⟨fun e => by subst e; simp only [List.length_nil] at hl; omega, o1⟩, by rw [cW, szF]; omega, by rw [dW]; omega⟩ f3 (k2.trans k3)
theorem FwOk.gw {m : Nat} {w : Wk} (h : FwOk m w) {n d : Nat} (h1 : szF m ≤ n) (h2 : m + 1 ≤ d) : Gw w n d := ⟨h.ok, by have := h.c; omega, by have := h.d; omega⟩
def wSnd : Wk := .bes (.row [.tick 1, .row [], .sme 0 4 true]) (.eit [.lop 2 2 false (.sme 1 1 false), .tick 12, .eit [.lop 0 3 true (.bes (.tick 1) (.row [])), .tick 7, .sme 0 4 true]])
def RC (d : D) : List D → D → Prop := fun ds r => ds = [] ∧ r = d
theorem law_second_rd : ∀ ds G Q E, pSp (RC (toD wSnd)) ds G Q E → r_law_second { nx := fun _ G' => Q .non G', rt := Q } (startD 3 ds) G := by
  rintro ds G Q E ⟨_, ⟨rfl, rfl⟩, hq⟩
  unfold r_law_second
  walk_at "ds"
  exact hq _ (Grow.refl _)
end K03

namespace K03
open PySem L2 Dl 
local macro_rules | `(tactic| walk_at "ds") => `(tactic| repeat' with_reducible first
  | refine iVar (by with_unfolding_all rfl) ?_
  | refine iCons ?_
  | refine iNil ?_
  | refine iC ?_
  | refine iOp ?_
  | refine iSeq ?_
  | refine iAsg ?_
  | refine iGNm ?_
  | refine iTup ?_
  | refine iFrz ?_
  | refine iTst ?_
  | refine iIfS ?_
  | refine iRet ?_
  | refine iCall ?_
  | refine iLst ?_
  | refine iNext ?_
  | refine lstP_i (by assumption) ?_
  | refine lstP_i updG_same ?_
  | refine iCallG ?_
  | refine iDrop ?_
  | refine lenOk (by with_unfolding_all rfl) ?_
  | refine frzEnd ?_
  | refine slT ?_
  | refine iTru ?_
  | refine truB ?_
  | refine iOr ?_
  | refine iNot ?_
  | refine iAndVK ?_
  | refine andVT ?_
  | refine andVDT (by decide) ?_
  | refine iIf ?_
  | refine ifF ?_
  | refine iCB ?_
  | refine iMt ?_
  | refine iSl ?_
  | refine iP ?_
  | refine iNoP ?_
  | refine iFor ?_
  | refine iISq ?_
  | refine rIx_i (by with_unfolding_all rfl) (by with_unfolding_all rfl) ?_
  | refine rIx_i (by with_unfolding_all rfl) atI_0 ?_
  | refine ne_strT ?_
  | refine eq_ii ?_
  | refine add_ii ?_
  | refine intC_i ?_
  | refine iIRg1 ?_
  | refine ifNT ?_
  | refine andVDT (by with_reducible_and_instances first | omega | (simp only [List.length_cons, List.length_nil]; omega)) ?_
  | fail "stuck")
end K03

namespace K04
open PySem L2 Dl K03
local macro_rules | `(tactic| walk_at "ds") => `(tactic| repeat' with_reducible first
  | fail "stuck")
structure Xw (w : Wk) (n d : Nat) : Prop where
  ok : okW (10 ^ 60) w
  c : cW w ≤ n
  d : dW w ≤ d
end K04

namespace K04
open PySem L2 Dl K03
local macro_rules | `(tactic| walk_at "ds") => `(tactic| repeat' with_reducible first
  | refine iVar (by with_unfolding_all rfl) ?_
  | refine iCons ?_
  | refine iNil ?_
  | refine iC ?_
  | refine iOp ?_
  | refine iAsg ?_
  | refine iGNm ?_
  | refine iTup ?_
  | refine iFrz ?_
  | refine iTst ?_
  | refine iRet ?_
  | refine iCall ?_
  | refine iXPe ?_
  | refine iXPa ?_
  | refine iXPs ?_
  | refine iXSeq ?_
  | refine iXDrop ?_
  | refine iXRet ?_
  | refine iXAsg ?_
  | refine iXOp ?_
  | refine iXCall ?_
  | refine iNeg ?_
  | refine lenOk (by with_unfolding_all rfl) ?_
  | refine frzEnd ?_
  | refine slT ?_
  | refine iAndVK ?_
  | refine andVT ?_
  | refine andVF ?_
  | refine iCB ?_
  | refine iSl ?_
  | refine iP ?_
  | refine iNoP ?_
  | refine iStar ?_
  | refine iISq ?_
  | refine rIx_i (by with_unfolding_all rfl) (by with_unfolding_all rfl) ?_
  | refine rIx_i (by with_unfolding_all rfl) atI_0 ?_
  | refine int0 ?_
  | refine tupC_l ?_
  | fail "stuck")
def cntd : Wk → Bool
  | .sme _ _ _ => true
  | .lop _ _ _ _ => true
  | _ => false
theorem ix0 {u : Wk} {G : GH} {Q : DK} (h : Q (.str (wordW u)) G) : rIx (toD u) (.int 0) G Q := by
  cases u <;> (rw [toD]; exact rIx_i (by with_unfolding_all rfl) atI_0 h)
theorem in_cnt (u : Wk) : inD (.str (wordW u)) [.str "some", .str "loop"] = cntd u := by
  cases u <;> (simp only [wordW, cntd]; decide +kernel)
theorem inn_cnt {f : Bool → Bool} {u : Wk} {G : GH} {Q : DK} (h : Q (.bl (f (cntd u))) G) : rInn f (.str (wordW u)) (.tup [.str "some", .str "loop"]) G Q := by
  show flatD (.str (wordW u)) = true ∧ [D.str "some", D.str "loop"].all flatD = true ∧ Q (.bl (f (inD (.str (wordW u)) [.str "some", .str "loop"]))) G
  rw [in_cnt]
  exact ⟨rfl, rfl, h⟩
def lpsW (w : Wk) : List (Pth × Wk) := (preW [] w).filter fun q => cntd q.2
def Rlo : List D → D → Prop := fun ds d => ∃ w, ds = [toD w] ∧ cW w ≤ 400 ∧ dW w ≤ 400 ∧ d = .tup ((lpsW w).map fun q => pthD q.1)
theorem loops_of_rd : ∀ ds G Q E, pSp Rlo ds G Q E → r_loops_of (pSp Rall) { nx := fun _ G' => Q .non G', rt := Q } (startD 3 ds) G := by
  rintro ds G Q E ⟨_, ⟨w, rfl, hc, hd, rfl⟩, hq⟩
  unfold r_loops_of
  have hz : (2000 : Nat) ≤ sizeLine := by decide
  have hlen : (preW [] w).length ≤ 400 := by rw [pre_len]; exact hc
  walk_at "ds"
  refine lcFt (preW [] w) prD (fun q => pthD q.1) (fun q => cntd q.2) ?_ (by omega) ?_ ?_
  · intro P hP
    walk_at "ds"
    refine ⟨_, ⟨w, rfl, hc, hd, rfl⟩, fun G1 g1 => ?_⟩
    dsimp only
    exact hP _ _ (fun _ => trivial) g1
  · intro q hq
    refine ⟨_, rfl, fun G1 K hK => ?_, fun _ G1 K hK => ?_⟩
    · walk_at "ds"
      refine ix0 ?_
      walk_at "ds"
      refine inn_cnt ?_
      exact hK _ (Grow.refl _)
    · walk_at "ds"
      exact hK _ (Grow.refl _)
  · intro G1 g1
    walk_at "ds"
    exact hq _ g1
def lowB : Wk → Int
  | .sme a _ _ => a
  | .lop a _ _ _ => a
  | _ => 0
def topB : Wk → Int
  | .sme _ b _ => b
  | .lop _ b _ _ => b
  | _ => 0
def tldW (t : Bool) : Wk → Wk
  | .sme a b _ => .sme a b t
  | .lop a b _ w => .lop a b t w
  | w => w
def bndW (a b : Int) : Wk → Wk
  | .sme _ _ t => .sme a b t
  | .lop _ _ t w => .lop a b t w
  | w => w
end K04

namespace K04
open PySem L2 Dl K03
local macro_rules | `(tactic| walk_at "ds") => `(tactic| repeat' with_reducible first
  | refine iVar (by with_unfolding_all rfl) ?_
  | refine iCons ?_
  | refine iNil ?_
  | refine iOp ?_
  | refine iFrz ?_
  | refine iRet ?_
  | refine iCall ?_
  | refine iAndVK ?_
  | refine andVT ?_
  | refine andVF ?_
  | refine iCB ?_
  | refine iIsi ?_
  | refine iISq ?_
  | refine isi_T (by with_unfolding_all rfl) (by decide +kernel) ?_
  | refine isi_F (by with_unfolding_all rfl) (by decide +kernel) ?_
  | fail "stuck")
def prtW : Wk → Pth → Option Wk
  | w, [] => some w
  | w, k :: p => match (innW w)[k]? with
    | some u => prtW u p
    | none => none
theorem prt_along : ∀ (p : Pth) (w : Wk), prtW w p = (alongW w p).bind (·.getLast?)
  | [], w => rfl
  | k :: p, w => by
    rw [prtW, alongW]
    cases e : (innW w)[k]? with
    | none => rfl
    | some u =>
      dsimp only
      rw [prt_along p u]
      cases e2 : alongW u p with
      | none => rfl
      | some l =>
        have := along_len p u l e2
        cases l with
        | nil => simp at this
        | cons a l => simp
theorem prt_some {w : Wk} {p : Pth} {u : Wk} (h : prtW w p = some u) : ∃ L, alongW w p = some (L ++ [u]) := by
  rw [prt_along] at h
  cases e : alongW w p with
  | none => rw [e] at h; cases h
  | some l =>
    rw [e] at h
    obtain ⟨L, v, rfl⟩ := along_snoc e
    simp at h
    subst h
    exact ⟨L, rfl⟩
theorem prt_of {w : Wk} {p : Pth} {L : List Wk} {u : Wk} (h : alongW w p = some (L ++ [u])) : prtW w p = some u := by rw [prt_along, h]; simp
def cntA (w : Wk) (p : Pth) : Bool := match prtW w p with
  | some u => cntd u
  | none => false
def telW (t : Bool) : Wk → Pth → Wk
  | w, [] => tldW t w
  | w, k :: p => match (innW w)[k]? with
    | some u => setW w k (telW t u p)
    | none => w
theorem tel_put (t : Bool) : ∀ (p : Pth) (w : Wk) (L : List Wk) (u : Wk), alongW w p = some (L ++ [u]) → putW (tldW t u) w p = telW t w p
  | [], w, L, u, h => by
    rw [alongW] at h
    cases L with
    | nil => simp at h; subst h; rw [putW, telW]
    | cons a L => simp at h
  | k :: p, w, L, u, h => by
    obtain ⟨v, l', hv, e', e, hne⟩ := along_cons h
    obtain ⟨L', x, rfl⟩ := along_snoc e'
    have : x = u := by
      have h2 : (L ++ [u]).getLast? = (w :: (L' ++ [x])).getLast? := congrArg List.getLast? e
      rw [← List.cons_append, List.getLast?_concat, List.getLast?_concat] at h2
      injection h2 with h2
      exact h2.symm
    subst this
    rw [putW, telW, hv]
    dsimp only
    rw [tel_put t p v L' x e']
theorem inn_tld (t : Bool) (w : Wk) : innW (tldW t w) = innW w := by cases w <;> rfl
theorem cnt_tld (t : Bool) (w : Wk) : cntd (tldW t w) = cntd w := by cases w <;> rfl
theorem inn_set {w u : Wk} {k : Nat} (x : Wk) (h : (innW w)[k]? = some u) : innW (setW w k x) = (innW w).set k x := by
  have hk := (List.getElem?_eq_some_iff.mp h).1
  cases w with
  | tick n => simp [innW] at hk
  | sme a b t => simp [innW] at hk
  | lop a b t v => simp [innW] at hk; subst hk; rfl
  | eit ws => rfl
  | row ws => rfl
  | bes a b =>
    simp [innW] at hk
    obtain rfl | rfl : k = 0 ∨ k = 1 := by omega
    · rfl
    · rfl
theorem cnt_set (w : Wk) (k : Nat) (x : Wk) : cntd (setW w k x) = cntd w := by
  cases w with
  | bes a b => cases k <;> rfl
  | _ => rfl
theorem cnt_tel (t : Bool) : ∀ (p : Pth) (w : Wk) (q : Pth), cntA (telW t w p) q = cntA w q
  | [], w, [] => by simp [telW, cntA, prtW, cnt_tld]
  | [], w, j :: r => by simp only [telW, cntA, prtW, inn_tld]
  | k :: p, w, q => by
    rw [telW]
    cases e : (innW w)[k]? with
    | none => rfl
    | some u =>
      dsimp only
      cases q with
      | nil => simp [cntA, prtW, cnt_set]
      | cons j r =>
        have ih := cnt_tel t p u r
        have hk := (List.getElem?_eq_some_iff.mp e).1
        simp only [cntA, prtW, inn_set _ e] at ih ⊢
        by_cases hj : k = j
        · subst hj
          rw [List.getElem?_set_self hk, e]
          exact ih
        · rw [List.getElem?_set_ne hj]
theorem tel_sz (t : Bool) : ∀ (p : Pth) (w : Wk), cW (telW t w p) = cW w ∧ dW (telW t w p) ≤ dW w ∧ (∀ B, okW B w → okW B (telW t w p))
  | [], w => by cases w <;> simp [telW, tldW, cW, dW, okW]
  | k :: p, w => by
    rw [telW]
    cases e : (innW w)[k]? with
    | none => exact ⟨rfl, Nat.le_refl _, fun _ h => h⟩
    | some u =>
      dsimp only
      obtain ⟨h1, h2, h3⟩ := tel_sz t p u
      have hu := List.mem_of_getElem? e
      refine ⟨?_, ?_, fun B h => setW_ok h e (h3 B (inn_ok h hu))⟩
      · have := setW_c (x := telW t u p) e; omega
      · have := setW_d w (telW t u p) k; have := inn_d hu; omega
def tellW (t : Bool) (w : Wk) (ps : List Pth) : Wk := ps.foldl (telW t) w
theorem lps_cnt {w : Wk} {q : Pth × Wk} (h : q ∈ lpsW w) : cntA w q.1 = true ∧ ∃ L, alongW w q.1 = some (L ++ [q.2]) := by
  obtain ⟨h1, h2⟩ := List.mem_filter.mp h
  obtain ⟨r, l, e1, e2, e3, e4⟩ := pre_along w [] q h1
  rw [List.nil_append] at e1
  subst e1
  obtain ⟨L, u, rfl⟩ := along_snoc e2
  have : u = q.2 := by simpa using e3
  subst this
  refine ⟨?_, L, e2⟩
  rw [cntA, prt_of e2]; exact h2
theorem cnt_lps {w : Wk} {p : Pth} (h : cntA w p = true) : ∃ u, (p, u) ∈ lpsW w := by
  unfold cntA at h
  cases e : prtW w p with
  | none => rw [e] at h; cases h
  | some u =>
    rw [e] at h
    obtain ⟨L, hL⟩ := prt_some e
    have := along_pre p w [] _ u hL (by simp)
    exact ⟨u, List.mem_filter.mpr ⟨by simpa using this, h⟩⟩
structure XOk (x : D) : Prop where
  pl : Pln x = true
  ok : okD x
  its : ∀ xs, x = .tup xs → (∀ y ∈ xs, Pln y = true) ∧ xs.length ≤ 1000
theorem xok_path (p : Pth) (h : p.length ≤ 1000) : XOk (pthD p) := ⟨rfl, ok_pth p, fun xs e => by
  injection e with e; subst e
  exact ⟨fun y hy => by obtain ⟨k, -, rfl⟩ := List.mem_map.mp hy; rfl, by simpa using h⟩⟩
theorem nums_path : ∀ {xs : List D}, (xs.map isNumB).all id = true → ∃ p : Pth, xs = p.map ixD
  | [], _ => ⟨[], rfl⟩
  | x :: xs, h => by
    simp only [List.map_cons, List.all_cons, id, Bool.and_eq_true] at h
    obtain ⟨p, rfl⟩ := nums_path (xs := xs) h.2
    cases x with
    | int i =>
      have h0 : 0 ≤ i := of_decide_eq_true h.1
      exact ⟨i.toNat :: p, by rw [List.map_cons, ixD]; congr 2; omega⟩
    | _ => simp [isNumB] at h
theorem path_nums (p : Pth) : ((p.map ixD).map isNumB).all id = true := by
  rw [List.map_map, List.all_map, List.all_eq_true]
  intro k _
  show (decide ((0 : Int) ≤ ((k : Nat) : Int))) = true
  exact decide_eq_true (Int.natCast_nonneg k)
theorem eqv_pth : ∀ (p q : Pth), eqvDs (p.map ixD) (q.map ixD) = decide (p = q)
  | [], [] => by simp [eqvDs]
  | [], _ :: _ => by simp [eqvDs]
  | _ :: _, [] => by simp [eqvDs]
  | k :: p, j :: q => by
    rw [List.map_cons, List.map_cons, eqvDs, eqv_pth p q, ixD, ixD, eqvD]
    by_cases h : k = j
    · subst h; simp
    · have : ((k : Nat) : Int) ≠ (j : Nat) := by omega
      rw [beq_eq_false_iff_ne.mpr this, Bool.false_and]; exact (decide_eq_false (fun e => h (List.cons.inj e).1)).symm
theorem eqv_pthD (p q : Pth) : eqvD (pthD p) (pthD q) = decide (p = q) := by rw [pthD, pthD, eqvD]; exact eqv_pth p q
theorem in_pths (L : List (Pth × Wk)) (p : Pth) : inD (pthD p) (L.map fun q => pthD q.1) = decide (∃ q ∈ L, q.1 = p) := by
  unfold inD
  rw [List.any_map]
  by_cases h : ∃ q ∈ L, q.1 = p
  · rw [decide_eq_true h, List.any_eq_true]
    obtain ⟨q, hq, e⟩ := h
    exact ⟨q, hq, by show eqvD (pthD q.1) (pthD p) = true; rw [eqv_pthD]; exact decide_eq_true e⟩
  · rw [decide_eq_false h, List.any_eq_false]
    intro q hq
    show ¬ eqvD (pthD q.1) (pthD p) = true
    rw [eqv_pthD]
    simp only [decide_eq_true_eq]
    exact fun e => h ⟨q, hq, e⟩
theorem ok_pths {L : List (Pth × Wk)} : okD (.lst (L.map fun q => pthD q.1)) := by
  constructor
  · rw [pureD]
    induction L with
    | nil => simp [pureDs]
    | cons x xs ih => simp only [List.map_cons, pureDs, Bool.and_eq_true]; exact ⟨(ok_pth x.1).1, ih⟩
  · have := depDs_le (ds := L.map fun q => pthD q.1) (n := 1) fun d hd => by obtain ⟨q, -, rfl⟩ := List.mem_map.mp hd; exact dep_pth _
    rw [depD]; omega
theorem ok_pathsT {L : List (Pth × Wk)} : okD (.tup (L.map fun q => pthD q.1)) := by
  have h : okD (.lst (L.map fun q => pthD q.1)) := ok_pths
  exact ⟨by have := h.1; simp only [pureD] at this ⊢; exact this, by have := h.2; simp only [depD] at this ⊢; exact this⟩
def isPo (w : Wk) (x : D) : Prop := ∃ p, x = pthD p ∧ cntA w p = true
def Rpo : List D → D → Prop := fun ds d => ∃ w x b, ds = [.tup ((lpsW w).map fun q => pthD q.1), x] ∧ XOk x ∧ (b = true ↔ isPo w x) ∧ d = .bl b
theorem is_path_of_rd : ∀ ds G Q E, pSp Rpo ds G Q E → r_is_path_of (pSp (RIi isNumB)) { nx := fun _ G' => Q .non G', rt := Q } (startD 3 ds) G := by
  rintro ds G Q E ⟨_, ⟨w, x, b, rfl, hx, hb, rfl⟩, hq⟩
  unfold r_is_path_of
  have hz : (2000 : Nat) ≤ sizeLine := by decide
  have no : ¬ isPo w x → ∀ G', Grow G G' → Q (.bl false) G' := fun h G' g => by
    have : b = false := by cases b with | false => rfl | true => exact (h (hb.mp rfl)).elim
    rw [← this]; exact hq _ g
  have nt : (∀ xs, x ≠ .tup xs) → ¬ isPo w x := fun h ⟨p, e, _⟩ => h _ e
  have hp := hx.pl
  cases x with
  | tup xs =>
    obtain ⟨hy, hl⟩ := hx.its xs rfl
    walk_at "ds"
    refine lcF xs id (fun y => .bl (isNumB y)) ?_ (by omega) ?_ ?_
    · intro P hP
      walk_at "ds"
      rw [show xs = xs.map id from (List.map_id _).symm]
      exact hP _ _ (fun _ => trivial) (Grow.refl _)
    · intro y hyy
      refine ⟨_, rfl, fun G1 K hK => ?_⟩
      rw [show (id y : D) = y from rfl]
      walk_at "ds"
      exact ⟨_, ⟨y, rfl, hy y hyy, rfl⟩, fun G2 g2 => hK _ g2⟩
    · intro G1 g1
      walk_at "ds"
      refine allC_i (bs := xs.map isNumB) ?_ ?_
      · clear hx hb no nt hy hl hp hq
        induction xs with
        | nil => rfl
        | cons y xs ih => simp only [List.map_cons, bolsD, ih]; rfl
      cases hn : (xs.map isNumB).all id with
      | false =>
        walk_at "ds"
        refine no (fun ⟨p, e, _⟩ => ?_) _ g1
        injection e with e
        subst e
        rw [path_nums] at hn
        cases hn
      | true =>
        obtain ⟨p, rfl⟩ := nums_path hn
        walk_at "ds"
        refine ⟨ok_pth p, ok_pathsT, ?_⟩
        rw [show inD (.tup (p.map ixD)) ((lpsW w).map fun q => pthD q.1) = b from ?_]
        · exact hq _ g1
        · rw [show D.tup (p.map ixD) = pthD p from rfl, in_pths]
          cases b with
          | true =>
            obtain ⟨p', e, hc⟩ := hb.mp rfl
            have : p' = p := by
              have h2 := eqv_pthD p' p
              rw [show pthD p' = pthD p from e.symm] at h2
              have h3 := eqv_pthD p p
              rw [h2] at h3
              simpa using h3
            subst this
            obtain ⟨u, hu⟩ := cnt_lps hc
            exact decide_eq_true ⟨_, hu, rfl⟩
          | false =>
            refine decide_eq_false fun ⟨q, hq2, e⟩ => ?_
            subst e
            have := hb.mpr ⟨q.1, rfl, (lps_cnt hq2).1⟩
            cases this
  | non => walk_at "ds"; exact no (nt fun _ h => nomatch h) _ (Grow.refl _)
  | bl c => walk_at "ds"; exact no (nt fun _ h => nomatch h) _ (Grow.refl _)
  | int c => walk_at "ds"; exact no (nt fun _ h => nomatch h) _ (Grow.refl _)
  | str c => walk_at "ds"; exact no (nt fun _ h => nomatch h) _ (Grow.refl _)
  | lst c => walk_at "ds"; exact no (nt fun _ h => nomatch h) _ (Grow.refl _)
  | _ => simp [Pln] at hp
end K04

namespace K04
open PySem L2 Dl K03
local macro_rules | `(tactic| walk_at "ds") => `(tactic| repeat' with_reducible first
  | refine iVar (by with_unfolding_all rfl) ?_
  | refine iCons ?_
  | refine iNil ?_
  | refine iC ?_
  | refine iAsg ?_
  | refine iGNm ?_
  | refine iRet ?_
  | refine iCall ?_
  | refine iXPa ?_
  | refine iXPs ?_
  | refine iXSeq ?_
  | refine iXDrop ?_
  | refine iXAsg ?_
  | refine iXCall ?_
  | refine iNeg ?_
  | refine iGTp (by with_unfolding_all rfl) ?_
  | refine iGsCons ?_
  | refine iGsNil ?_
  | refine iIsi ?_
  | refine iISq ?_
  | refine iIEnT ?_
  | refine isi_T (by with_unfolding_all rfl) (by decide +kernel) ?_
  | refine isi_F (by with_unfolding_all rfl) (by decide +kernel) ?_
  | fail "stuck")
theorem tell_snoc (t : Bool) (w : Wk) (ps : List Pth) (p : Pth) : tellW t w (ps ++ [p]) = telW t (tellW t w ps) p := by rw [tellW, List.foldl_append]; rfl
theorem tell_cnt (t : Bool) : ∀ (ps : List Pth) (w : Wk) (q : Pth), cntA (tellW t w ps) q = cntA w q
  | [], w, q => rfl
  | p :: ps, w, q => by rw [tellW, List.foldl_cons]; exact (tell_cnt t ps (telW t w p) q).trans (cnt_tel t p w q)
theorem tell_sz (t : Bool) : ∀ (ps : List Pth) (w : Wk), cW (tellW t w ps) = cW w ∧ dW (tellW t w ps) ≤ dW w ∧ (∀ B, okW B w → okW B (tellW t w ps))
  | [], w => ⟨rfl, Nat.le_refl _, fun _ h => h⟩
  | p :: ps, w => by
    obtain ⟨h1, h2, h3⟩ := tell_sz t ps (telW t w p)
    obtain ⟨k1, k2, k3⟩ := tel_sz t p w
    exact ⟨h1.trans k1, Nat.le_trans h2 k2, fun B h => h3 B (k3 B h)⟩
theorem cnt_len {w : Wk} {p : Pth} (h : cntA w p = true) : p.length + 1 ≤ dW w := by
  unfold cntA at h
  cases e : prtW w p with
  | none => rw [e] at h; cases h
  | some u =>
    obtain ⟨L, hL⟩ := prt_some e
    exact along_dep p w _ hL
theorem getD_left {ps : List Pth} {r : List D} {i : Nat} (h : i < ps.length) : (ps.map pthD ++ r).getD i .non = pthD ps[i] := by
  rw [List.getD_eq_getElem?_getD, List.getElem?_append_left (by simpa using h), List.getElem?_map, List.getElem?_eq_getElem h]; rfl
end K04

namespace K04
open PySem L2 Dl K03
local macro_rules | `(tactic| walk_at "ds") => `(tactic| repeat' with_reducible first
  | refine iVar (by with_unfolding_all rfl) ?_
  | refine iCons ?_
  | refine iNil ?_
  | refine iC ?_
  | refine iOp ?_
  | refine iSeq ?_
  | refine iAsg ?_
  | refine iGNm ?_
  | refine iTup ?_
  | refine iFrz ?_
  | refine iTst ?_
  | refine iRet ?_
  | refine iCall ?_
  | refine iDGet ?_
  | refine dctP_i (by assumption) ?_
  | refine dctP_i updG_same ?_
  | refine lenOk (by with_unfolding_all rfl) ?_
  | refine slT ?_
  | refine iCB ?_
  | refine iSl ?_
  | refine iP ?_
  | refine iNoP ?_
  | refine iISq ?_
  | refine keyP_s ?_
  | refine add_ttb (by with_unfolding_all rfl) ?_
  | fail "stuck")
end K04

namespace K04
open PySem L2 Dl K03
local macro_rules | `(tactic| walk_at "ds") => `(tactic| repeat' with_reducible first
  | fail "stuck")
structure AtP (w : Wk) (p : Pth) (u : Wk) : Prop where
  al : ∃ L, alongW w p = some (L ++ [u])
  cn : cntd u = true
  ca : cntA w p = true
theorem AtP.one {w : Wk} {p : Pth} {u : Wk} (h : AtP w p u) {q : Pth × Wk} (hq : q ∈ preW [] w) (e : q.1 = p) : q.2 = u := by
  obtain ⟨L, hL⟩ := h.al
  obtain ⟨r1, l, e1, e2, e3, e4⟩ := pre_along w [] q hq
  rw [List.nil_append] at e1
  rw [← e1, e, hL] at e2
  injection e2 with e2
  subst e2
  simpa using e3.symm
theorem AtP.mem {w : Wk} {p : Pth} {u : Wk} (h : AtP w p u) : (p, u) ∈ preW [] w := by
  obtain ⟨L, hL⟩ := h.al
  have := along_pre p w [] _ u hL (by simp)
  simpa using this
theorem AtP.first {w : Wk} {p : Pth} {u : Wk} (h : AtP w p u) : ∃ r, ((preW [] w).filter fun q => decide (q.1 = p)).map (fun q => toD q.2) = toD u :: r := by
  have hm : (p, u) ∈ (preW [] w).filter fun q => decide (q.1 = p) := List.mem_filter.mpr ⟨h.mem, decide_eq_true rfl⟩
  cases e : (preW [] w).filter fun q => decide (q.1 = p) with
  | nil => rw [e] at hm; cases hm
  | cons q r =>
    have hq : q ∈ (preW [] w).filter fun q => decide (q.1 = p) := by rw [e]; exact List.mem_cons_self ..
    obtain ⟨h1, h2⟩ := List.mem_filter.mp hq
    exact ⟨r.map fun q => toD q.2, by rw [List.map_cons, h.one h1 (of_decide_eq_true h2)]⟩
def RBo : List D → D → Prop := fun ds d => ∃ w p u, ds = [toD w, pthD p] ∧ cW w ≤ 400 ∧ dW w ≤ 400 ∧ AtP w p u ∧ d = .tup [.int (lowB u), .int (topB u)]
def RTf (t : Bool) : List D → D → Prop := fun ds d => ∃ w p, ds = [toD w, pthD p] ∧ cW w ≤ 400 ∧ dW w ≤ 400 ∧ cntA w p = true ∧ d = toD (telW t w p)
def RBs : List D → D → Prop := fun ds d => ∃ (w : Wk) (p : Pth) (u : Wk) (i j : Int), ds = [toD w, pthD p, .int i, .int j] ∧ cW w ≤ 400 ∧ dW w ≤ 400 ∧ AtP w p u ∧ 0 ≤ i ∧ i ≤ j ∧ d = toD (putW (bndW i j u) w p)
def RTc : List D → D → Prop := fun ds d => ∃ (w : Wk) (ps : List Pth), ds = [toD w, .tup (ps.map pthD)] ∧ cW w ≤ 120 ∧ dW w ≤ 30 ∧ (∀ p ∈ ps, cntA w p = true) ∧ ps.length ≤ 1000 ∧ d = toD (tellW true w ps)
theorem AtP.wa {w : Wk} {p : Pth} {u : Wk} (h : AtP w p u) (hc : cW w ≤ 400) (hd : dW w ≤ 400) : WaOk w (pthD p) := waOk_path hc (by have := cnt_len h.ca; omega)
theorem cnt_at {w : Wk} {p : Pth} (h : cntA w p = true) : ∃ u, AtP w p u := by
  have h0 := h
  unfold cntA at h
  cases e5 : prtW w p with
  | none => rw [e5] at h; cases h
  | some u =>
    rw [e5] at h
    exact ⟨u, prt_some e5, h, h0⟩
theorem AtP.part {w : Wk} {p : Pth} {u : Wk} (h : AtP w p u) {n d : Nat} (hw : Gw w n d) : Gw u n d := hw.part h.mem
theorem tel_gw {t : Bool} {w : Wk} {p : Pth} {n d : Nat} (h : Gw w n d) : Gw (telW t w p) n d := by
  obtain ⟨h1, h2, h3⟩ := tel_sz t p w
  exact ⟨h3 _ h.ok, by have := h.c; omega, by have := h.d; omega⟩
theorem tell_gw {t : Bool} {w : Wk} {ps : List Pth} {n d : Nat} (h : Gw w n d) : Gw (tellW t w ps) n d := by
  obtain ⟨h1, h2, h3⟩ := tell_sz t ps w
  exact ⟨h3 _ h.ok, by have := h.c; omega, by have := h.d; omega⟩
theorem bounds_small {u : Wk} {n d : Nat} (h : Gw u n d) (hc : cntd u = true) : 0 ≤ lowB u ∧ lowB u ≤ topB u ∧ topB u ≤ 999 := by
  have h1 := h.ok
  cases u with
  | sme a b t => rw [okW] at h1; exact h1
  | lop a b t v => rw [okW] at h1; exact ⟨h1.1, h1.2.1, h1.2.2.1⟩
  | _ => cases hc
end K04

namespace K04
open PySem L2 Dl K03
local macro_rules | `(tactic| walk_at "ds") => `(tactic| repeat' with_reducible first
  | refine iVar (by with_unfolding_all rfl) ?_
  | refine iCons ?_
  | refine iNil ?_
  | refine iC ?_
  | refine iOp ?_
  | refine iSeq ?_
  | refine iAsg ?_
  | refine iGNm ?_
  | refine iTup ?_
  | refine iFrz ?_
  | refine iTst ?_
  | refine iIfS ?_
  | refine iRet ?_
  | refine iCall ?_
  | refine iLst ?_
  | refine iNext ?_
  | refine lstP_i (by assumption) ?_
  | refine lstP_i updG_same ?_
  | refine iDrop ?_
  | refine iPar ?_
  | refine iGTp (by with_unfolding_all rfl) ?_
  | refine iGsCons ?_
  | refine iGsNil ?_
  | refine lenOk (by with_unfolding_all rfl) ?_
  | refine frzEnd ?_
  | refine slT ?_
  | refine ifF ?_
  | refine iCB ?_
  | refine iMt ?_
  | refine iSl ?_
  | refine iP ?_
  | refine iNoP ?_
  | refine iFor ?_
  | refine iISq ?_
  | refine rIx_i (by with_unfolding_all rfl) (by with_unfolding_all rfl) ?_
  | refine rIx_i (by with_unfolding_all rfl) atI_0 ?_
  | refine ne_strT ?_
  | refine add_ii ?_
  | refine len_l ?_
  | refine tupC_l ?_
  | refine iIRg1 ?_
  | refine add_ttb (by with_unfolding_all rfl) ?_
  | refine ifNT ?_
  | refine ifNF ?_
  | fail "stuck")
theorem ix_low {u : Wk} (hu : cntd u = true) {G : GH} {Q : DK} (h : Q (.int (lowB u)) G) : rIx (toD u) (.int 1) G Q := by
  cases u with
  | sme a b t => rw [toD]; exact rIx_i (by with_unfolding_all rfl) atI_1 h
  | lop a b t v => rw [toD]; exact rIx_i (by with_unfolding_all rfl) atI_1 h
  | _ => cases hu
theorem ix_top {u : Wk} (hu : cntd u = true) {G : GH} {Q : DK} (h : Q (.int (topB u)) G) : rIx (toD u) (.int 2) G Q := by
  cases u with
  | sme a b t => rw [toD]; exact rIx_i (by with_unfolding_all rfl) atI_2 h
  | lop a b t v => rw [toD]; exact rIx_i (by with_unfolding_all rfl) atI_2 h
  | _ => cases hu
end K04

namespace K04
open PySem L2 Dl K03
local macro_rules | `(tactic| walk_at "ds") => `(tactic| repeat' with_reducible first
  | refine iVar (by with_unfolding_all rfl) ?_
  | refine iCons ?_
  | refine iNil ?_
  | refine iC ?_
  | refine iOp ?_
  | refine iSeq ?_
  | refine iAsg ?_
  | refine iGNm ?_
  | refine iTup ?_
  | refine iFrz ?_
  | refine iTst ?_
  | refine iIfS ?_
  | refine iLst ?_
  | refine iNext ?_
  | refine iXPa ?_
  | refine iXCall ?_
  | refine iNeg ?_
  | refine lstP_i (by assumption) ?_
  | refine lstP_i updG_same ?_
  | refine iDrop ?_
  | refine iGTp (by with_unfolding_all rfl) ?_
  | refine iGsCons ?_
  | refine iGsNil ?_
  | refine lenOk (by with_unfolding_all rfl) ?_
  | refine frzEnd ?_
  | refine iCB ?_
  | refine iMt ?_
  | refine iFor ?_
  | refine iISq ?_
  | refine len_l ?_
  | refine tupC_l ?_
  | refine ifNT ?_
  | fail "stuck")
end K04

namespace K04
open PySem L2 Dl K03
local macro_rules | `(tactic| walk_at "ds") => `(tactic| repeat' with_reducible first
  | refine iVar (by with_unfolding_all rfl) ?_
  | refine iCons ?_
  | refine iNil ?_
  | refine iC ?_
  | refine iOp ?_
  | refine iSeq ?_
  | refine iAsg ?_
  | refine iGNm ?_
  | refine iTup ?_
  | refine iFrz ?_
  | refine iTst ?_
  | refine iIfS ?_
  | refine iRet ?_
  | refine iCall ?_
  | refine iLst ?_
  | refine iNext ?_
  | refine iXPa ?_
  | refine iXCall ?_
  | refine iNeg ?_
  | refine lstP_i (by assumption) ?_
  | refine lstP_i updG_same ?_
  | refine iDrop ?_
  | refine iGTp (by with_unfolding_all rfl) ?_
  | refine iGsCons ?_
  | refine iGsNil ?_
  | refine lenOk (by with_unfolding_all rfl) ?_
  | refine frzEnd ?_
  | refine lstC_l ?_
  | refine ifT ?_
  | refine ifF ?_
  | refine iCB ?_
  | refine iMt ?_
  | refine iFor ?_
  | refine iISq ?_
  | refine rIx_i (by with_unfolding_all rfl) (by with_unfolding_all rfl) ?_
  | refine rIx_i (by with_unfolding_all rfl) atI_0 ?_
  | refine ifNT ?_
  | fail "stuck")
end K04

namespace K04
open PySem L2 Dl K03
local macro_rules | `(tactic| walk_at "ds") => `(tactic| repeat' with_reducible first
  | refine iVar (by with_unfolding_all rfl) ?_
  | refine iCons ?_
  | refine iNil ?_
  | refine iC ?_
  | refine iOp ?_
  | refine iSeq ?_
  | refine iAsg ?_
  | refine iGNm ?_
  | refine iTup ?_
  | refine iFrz ?_
  | refine iTst ?_
  | refine iIfS ?_
  | refine iRet ?_
  | refine iCall ?_
  | refine iLst ?_
  | refine iNext ?_
  | refine lstP_i (by assumption) ?_
  | refine lstP_i updG_same ?_
  | refine iCallG ?_
  | refine iDrop ?_
  | refine lenOk (by with_unfolding_all rfl) ?_
  | refine frzEnd ?_
  | refine slT ?_
  | refine iTru ?_
  | refine truB ?_
  | refine iOr ?_
  | refine iNot ?_
  | refine ifF ?_
  | refine iCB ?_
  | refine iMt ?_
  | refine iSl ?_
  | refine iP ?_
  | refine iNoP ?_
  | refine iFor ?_
  | refine iISq ?_
  | refine rIx_i (by with_unfolding_all rfl) (by with_unfolding_all rfl) ?_
  | refine rIx_i (by with_unfolding_all rfl) atI_0 ?_
  | refine ne_strT ?_
  | refine ifNT ?_
  | fail "stuck")
end K04

namespace K12
open PySem L2 Dl K03 K04
local macro_rules | `(tactic| walk_at "ds") => `(tactic| repeat' with_reducible first
  | refine iVar (by with_unfolding_all rfl) ?_
  | refine iCons ?_
  | refine iNil ?_
  | refine iC ?_
  | refine iOp ?_
  | refine iSeq ?_
  | refine iAsg ?_
  | refine iGNm ?_
  | refine iTup ?_
  | refine iFrz ?_
  | refine iIfS ?_
  | refine iRet ?_
  | refine iCall ?_
  | refine iLst ?_
  | refine iNext ?_
  | refine iNeg ?_
  | refine lstP_i (by assumption) ?_
  | refine lstP_i updG_same ?_
  | refine iDrop ?_
  | refine iGTp (by with_unfolding_all rfl) ?_
  | refine iGsCons ?_
  | refine iGsNil ?_
  | refine lenOk (by with_unfolding_all rfl) ?_
  | refine frzEnd ?_
  | refine slT ?_
  | refine iTru ?_
  | refine truB ?_
  | refine iNot ?_
  | refine iAndVK ?_
  | refine andVT ?_
  | refine iCB ?_
  | refine iMt ?_
  | refine iSl ?_
  | refine iP ?_
  | refine iNoP ?_
  | refine iStar ?_
  | refine iIsi ?_
  | refine iFor ?_
  | refine iISq ?_
  | refine rIx_i (by with_unfolding_all rfl) (by with_unfolding_all rfl) ?_
  | refine rIx_i (by with_unfolding_all rfl) atI_0 ?_
  | refine int0 ?_
  | refine len_l ?_
  | refine iIEnT ?_
  | refine isi_T (by with_unfolding_all rfl) (by decide +kernel) ?_
  | refine ifNT ?_
  | fail "stuck")
def RReq : List D → D → Prop := fun ds d => ∃ (w : Str) (k : Int), ds = [.bl true, .str w, .int k] ∧ d = .non
theorem require_usable_rd : ∀ ds G Q E, pSp RReq ds G Q E → r_require_usable { nx := fun _ G' => Q .non G', rt := Q } (startD 3 ds) G := by
  rintro ds G Q E ⟨_, ⟨w, k, rfl, rfl⟩, hq⟩
  unfold r_require_usable
  walk_at "ds"
  exact hq _ (Grow.refl _)
theorem require_paper_rd : ∀ ds G Q E, pSp RReq ds G Q E → r_require_paper { nx := fun _ G' => Q .non G', rt := Q } (startD 3 ds) G := by
  rintro ds G Q E ⟨_, ⟨w, k, rfl, rfl⟩, hq⟩
  unfold r_require_paper
  walk_at "ds"
  exact hq _ (Grow.refl _)
def RWac : List D → D → Prop := fun ds d => ∃ w p l, ds = [toD w, pthD p] ∧ alongW w p = some l ∧ cW w ≤ 400 ∧ p.length ≤ 1000 ∧ d = .lst (toDs l)
theorem works_along_rd : ∀ ds G Q E, pSp RWac ds G Q E → r_works_along (pSp RReq) (pSp (RIi isNumB)) (pSp Ri) { nx := fun _ G' => Q .non G', rt := Q } (startD 5 ds) G := by
  rintro ds G Q E ⟨_, ⟨w, p, l, rfl, hl, hc, hp, rfl⟩, hq⟩
  unfold r_works_along
  have hz : (3000 : Nat) ≤ sizeLine := by decide
  rw [show pthD p = D.tup (p.map ixD) from rfl]
  walk_at "ds"
  refine ⟨_, ⟨"path", -1, rfl, rfl⟩, fun G1 g1 => ?_⟩
  walk_at "ds"
  intro f hf
  have hf' : G f = none := by
    cases e : G f with
    | none => rfl
    | some o => rw [g1 f o e] at hf; cases hf
  walk_at "ds"
  refine dForGo_of (I := fun rest ρ G' => ∃ L u r l2 x3 x4, rest = r.map ixD ∧ ρ = [some (toD w), some (.tup (p.map ixD)), some (.ref f), x3, x4] ∧ G' f = some (.lst (toDs (L ++ [u]))) ∧ alongW u r = some l2 ∧ l = L ++ l2 ∧ cW u ≤ cW w ∧ L.length + r.length ≤ 1000 ∧ Grow G G') ?_ ?_ _ _ _
    ⟨[], w, p, l, _, _, rfl, rfl, by rw [updG_same]; rfl, hl, rfl, Nat.le_refl _, by simp; omega, Grow.upd2 hf' g1⟩
  · rintro ρ G2 ⟨L, u, r, l2, x3, x4, e0, rfl, e2, ea, el, -, -, g2⟩
    refine ⟨trivial, ?_⟩
    cases r with
    | cons => cases e0
    | nil =>
      rw [alongW] at ea
      cases ea
      walk_at "ds"
      refine frzR e2 ?_
      rw [← el]
      exact hq _ (Grow.drop hf' g2)
  · rintro y rest ρ G2 ⟨L, u, r, l2, x3, x4, e0, rfl, e2, ea, el, hcu, hlen, g2⟩ K hK
    cases r with
    | nil => cases e0
    | cons k r =>
      injection e0 with e01 e02
      subst e01 e02
      obtain ⟨v, l', hv, e', rfl, hne⟩ := along_cons ea
      have hk := (List.getElem?_eq_some_iff.mp hv).1
      have hcv := inn_c (List.mem_of_getElem? hv)
      have hiu := inn_len u
      rw [List.length_cons] at hlen
      refine ⟨trivial, ?_⟩
      walk_at "ds"
      refine rIx_r (d := toD u) e2 (by rw [toDs_app]; exact K03.atI_last _ _) ?_
      walk_at "ds"
      refine ⟨_, ⟨u, rfl, rfl⟩, fun G3 g3 => ?_⟩
      walk_at "ds"
      refine ⟨_, ⟨ixD k, rfl, rfl, rfl⟩, fun G4 g4 => ?_⟩
      rw [show isNumB (ixD k) = true from decide_eq_true (Int.natCast_nonneg k)]
      rw [show ixD k = D.int (k : Nat) from rfl]
      walk_at "ds"
      rw [toDs_len, decide_eq_true (by omega)]
      refine ⟨_, ⟨"path", -1, rfl, rfl⟩, fun G5 g5 => ?_⟩
      have e5 : G5 f = some (.lst (toDs (L ++ [u]))) := g5 _ _ (g4 _ _ (g3 _ _ e2))
      walk_at "ds"
      refine rIx_i (d := toD v) rfl (Dl.atI_nat (by rw [toDs_map, List.getElem?_map, hv]; rfl)) ?_
      walk_at "ds"
      refine app_i e5 (by rw [toDs_len, List.length_append, List.length_singleton]; omega) ?_
      refine hK _ _ ⟨L ++ [u], v, r, l', _, _, rfl, rfl, ?_, e', by rw [el]; simp, by omega, by rw [List.length_append, List.length_singleton]; omega, Grow.upd2 hf' (((g2.trans g3).trans g4).trans g5)⟩
      rw [updG_same, toDs_app (L ++ [u])]; rfl
theorem part_at_rd : ∀ ds G Q E, pSp RPt ds G Q E → r_part_at (pSp RWac) { nx := fun _ G' => Q .non G', rt := Q } (startD 2 ds) G := by
  rintro ds G Q E ⟨_, ⟨w, p, L, u, rfl, hc, hp, hl, rfl⟩, hq⟩
  unfold r_part_at
  walk_at "ds"
  refine ⟨_, ⟨w, p, _, rfl, hl, hc, hp, rfl⟩, fun G1 g1 => ?_⟩
  walk_at "ds"
  refine rIx_i (ds := toDs (L ++ [u])) (d := toD u) rfl (by rw [toDs_app]; exact K03.atI_last _ _) ?_
  exact hq _ g1
theorem with_part_rd : ∀ ds G Q E, pSp RWp ds G Q E → r_with_part (pSp Rpa) (pSp RReq) (pSp Riw) (pSp RWac) { nx := fun _ G' => Q .non G', rt := Q } (startD 4 ds) G := by
  rintro ds G Q E ⟨_, ⟨w, p, l, v, rfl, hc, hp, hl, h1, h2, h3, rfl⟩, hq⟩
  unfold r_with_part
  walk_at "ds"
  refine ⟨_, ⟨w, p, _, rfl, hl, hc, hp, rfl⟩, fun G1 g1 => ?_⟩
  obtain ⟨L, u, rfl⟩ := along_snoc hl
  walk_at "ds"
  refine ⟨_, .inl ⟨v, rfl, h1, h2, h3, rfl⟩, fun G2 g2 => ?_⟩
  walk_at "ds"
  refine ⟨_, ⟨"other", -1, rfl, rfl⟩, fun G3 g3 => ?_⟩
  walk_at "ds"
  refine slL (frzEnd ?_)
  walk_at "ds"
  refine ⟨_, ⟨w, p, v, L ++ [u], ?_, hl, by omega, rfl⟩, fun G4 g4 => hq _ (((g1.trans g2).trans g3).trans g4)⟩
  rw [toDs_app, show toDs [u] = [toD u] from by simp [toDs], cut_last, List.dropLast_concat]
def RCac : List D → D → Prop := fun ds d => ∃ w p L u, ds = [toD w, pthD p] ∧ alongW w p = some (L ++ [u]) ∧ cntd u = true ∧ cW w ≤ 400 ∧ p.length ≤ 1000 ∧ d = .lst (toDs (L ++ [u]))
theorem counted_along_rd : ∀ ds G Q E, pSp RCac ds G Q E → r_counted_along (pSp RReq) (pSp RWac) { nx := fun _ G' => Q .non G', rt := Q } (startD 3 ds) G := by
  rintro ds G Q E ⟨_, ⟨w, p, L, u, rfl, hl, hu, hc, hp, rfl⟩, hq⟩
  unfold r_counted_along
  walk_at "ds"
  refine ⟨_, ⟨w, p, _, rfl, hl, hc, hp, rfl⟩, fun G1 g1 => ?_⟩
  walk_at "ds"
  refine rIx_i (ds := toDs (L ++ [u])) (d := toD u) rfl (by rw [toDs_app]; exact K03.atI_last _ _) ?_
  walk_at "ds"
  refine ix0 ?_
  walk_at "ds"
  refine inn_cnt ?_
  rw [hu]
  walk_at "ds"
  refine ⟨_, ⟨"loop", -1, rfl, rfl⟩, fun G2 g2 => ?_⟩
  walk_at "ds"
  exact hq _ (g1.trans g2)
theorem plen {w : Wk} {p : Pth} (h : cntA w p = true) (hd : dW w ≤ 400) : p.length ≤ 1000 := by have := cnt_len h; omega
theorem bounds_of_rd : ∀ ds G Q E, pSp RBo ds G Q E → r_bounds_of (pSp RCac) { nx := fun _ G' => Q .non G', rt := Q } (startD 3 ds) G := by
  rintro ds G Q E ⟨_, ⟨w, p, u, rfl, hc, hd, hA, rfl⟩, hq⟩
  unfold r_bounds_of
  obtain ⟨L, hL⟩ := hA.al
  walk_at "ds"
  refine ⟨_, ⟨w, p, L, u, rfl, hL, hA.cn, hc, plen hA.ca hd, rfl⟩, fun G1 g1 => ?_⟩
  walk_at "ds"
  refine rIx_i (ds := toDs (L ++ [u])) (d := toD u) rfl (by rw [toDs_app]; exact K03.atI_last _ _) ?_
  walk_at "ds"
  refine ix_low hA.cn ?_
  walk_at "ds"
  refine ix_top hA.cn ?_
  walk_at "ds"
  exact hq _ g1
def RToc : List D → D → Prop := fun ds d => ∃ w p t, ds = [toD w, pthD p, .bl t] ∧ cW w ≤ 400 ∧ dW w ≤ 400 ∧ cntA w p = true ∧ d = toD (telW t w p)
theorem with_told_rd : ∀ ds G Q E, pSp RToc ds G Q E → r_with_told (pSp Rpa) (pSp RCac) { nx := fun _ G' => Q .non G', rt := Q } (startD 5 ds) G := by
  rintro ds G Q E ⟨_, ⟨w, p, t, rfl, hc, hd, hcn, rfl⟩, hq⟩
  unfold r_with_told
  obtain ⟨u, hA⟩ := cnt_at hcn
  obtain ⟨L, hL⟩ := hA.al
  have hu := hA.cn
  walk_at "ds"
  refine ⟨_, ⟨w, p, L, u, rfl, hL, hA.cn, hc, plen hA.ca hd, rfl⟩, fun G1 g1 => ?_⟩
  walk_at "ds"
  refine rIx_i (ds := toDs (L ++ [u])) (d := toD u) rfl (by rw [toDs_app]; exact K03.atI_last _ _) ?_
  have fin : ∀ (v : Wk) (ds : List D), toD v = .tup ds → v = tldW t u → pSp Rpa [.lst (toDs L), pthD p, .tup ds] G1 Q noX := by
    intro v ds ev e
    rw [← ev]
    refine ⟨_, ⟨w, p, v, L ++ [u], by rw [List.dropLast_concat], hL, by omega, rfl⟩, fun G2 g2 => ?_⟩
    rw [e, tel_put t p w L u hL]; exact hq _ (g1.trans g2)
  cases u with
  | sme a b s =>
    rw [toD]
    walk_at "ds"
    refine slL (frzEnd ?_)
    walk_at "ds"
    have c1 : cutD [D.str "some", .int a, .int b, .bl s] none (some 3) = [.str "some", .int a, .int b] := by
      rw [show (3 : Int) = ((3 : Nat) : Int) from rfl, cut_take]; rfl
    have c2 : cutD [D.str "some", .int a, .int b, .bl s] (some 4) none = [] := by
      rw [show (4 : Int) = ((4 : Nat) : Int) from rfl, cut_drop]; rfl
    have c3 : cutD (toDs (L ++ [Wk.sme a b s])) none (some (-1)) = toDs L := by
      rw [toDs_app, show toDs [Wk.sme a b s] = [toD (Wk.sme a b s)] from by simp [toDs], cut_last]
    rw [c1]
    refine ⟨?_, ?_⟩
    · rw [c2]; exact Nat.le_of_ble_eq_true rfl
    rw [c2]
    walk_at "ds"
    rw [c3]
    exact fin (.sme a b t) _ (by rw [toD]; rfl) rfl
  | lop a b s v =>
    rw [toD]
    walk_at "ds"
    refine slL (frzEnd ?_)
    walk_at "ds"
    have c1 : cutD [D.str "loop", .int a, .int b, .bl s, toD v] none (some 3) = [.str "loop", .int a, .int b] := by
      rw [show (3 : Int) = ((3 : Nat) : Int) from rfl, cut_take]; rfl
    have c2 : cutD [D.str "loop", .int a, .int b, .bl s, toD v] (some 4) none = [toD v] := by
      rw [show (4 : Int) = ((4 : Nat) : Int) from rfl, cut_drop]; rfl
    have c3 : cutD (toDs (L ++ [Wk.lop a b s v])) none (some (-1)) = toDs L := by
      rw [toDs_app, show toDs [Wk.lop a b s v] = [toD (Wk.lop a b s v)] from by simp [toDs], cut_last]
    rw [c1]
    refine ⟨?_, ?_⟩
    · rw [c2]; exact Nat.le_of_ble_eq_true rfl
    rw [c2]
    walk_at "ds"
    rw [c3]
    exact fin (.lop a b t v) _ (by rw [toD]; rfl) rfl
  | _ => cases hu
theorem told_first_rd : ∀ ds G Q E, pSp (RTf true) ds G Q E → r_told_first (pSp RToc) { nx := fun _ G' => Q .non G', rt := Q } (startD 2 ds) G := by
  rintro ds G Q E ⟨_, ⟨w, p, rfl, hc, hd, hcn, rfl⟩, hq⟩
  unfold r_told_first
  walk_at "ds"
  exact ⟨_, ⟨w, p, true, rfl, hc, hd, hcn, rfl⟩, hq⟩
theorem told_last_rd : ∀ ds G Q E, pSp (RTf false) ds G Q E → r_told_last (pSp RToc) { nx := fun _ G' => Q .non G', rt := Q } (startD 2 ds) G := by
  rintro ds G Q E ⟨_, ⟨w, p, rfl, hc, hd, hcn, rfl⟩, hq⟩
  unfold r_told_last
  walk_at "ds"
  exact ⟨_, ⟨w, p, false, rfl, hc, hd, hcn, rfl⟩, hq⟩
theorem with_bounds_rd : ∀ ds G Q E, pSp RBs ds G Q E → r_with_bounds (pSp Rpa) (pSp RReq) (pSp (RIi isNumB)) (pSp RCac) { nx := fun _ G' => Q .non G', rt := Q } (startD 6 ds) G := by
  rintro ds G Q E ⟨_, ⟨w, p, u, i, j, rfl, hc, hd, hA, h0, hij, rfl⟩, hq⟩
  unfold r_with_bounds
  obtain ⟨L, hL⟩ := hA.al
  have hu := hA.cn
  walk_at "ds"
  refine ⟨_, ⟨w, p, L, u, rfl, hL, hA.cn, hc, plen hA.ca hd, rfl⟩, fun G1 g1 => ?_⟩
  walk_at "ds"
  refine ⟨_, ⟨.int i, rfl, rfl, rfl⟩, fun G2 g2 => ?_⟩
  rw [show isNumB (.int i) = true from decide_eq_true h0]
  walk_at "ds"
  refine ⟨_, ⟨"least", -1, rfl, rfl⟩, fun G3 g3 => ?_⟩
  walk_at "ds"
  refine ⟨_, ⟨.int j, rfl, rfl, rfl⟩, fun G4 g4 => ?_⟩
  rw [show isNumB (.int j) = true from decide_eq_true (by omega)]
  walk_at "ds"
  rw [decide_eq_true hij]
  refine ⟨_, ⟨"most", -1, rfl, rfl⟩, fun G5 g5 => ?_⟩
  walk_at "ds"
  refine rIx_i (ds := toDs (L ++ [u])) (d := toD u) rfl (by rw [toDs_app]; exact K03.atI_last _ _) ?_
  have g15 := (((g1.trans g2).trans g3).trans g4).trans g5
  have fin : ∀ (v : Wk) (ds : List D), toD v = .tup ds → v = bndW i j u → pSp Rpa [.lst (toDs L), pthD p, .tup ds] G5 Q noX := by
    intro v ds ev e
    rw [← ev]
    refine ⟨_, ⟨w, p, v, L ++ [u], by rw [List.dropLast_concat], hL, by omega, rfl⟩, fun G2 g2 => ?_⟩
    rw [e]; exact hq _ (g15.trans g2)
  cases u with
  | sme a b s =>
    rw [toD]
    walk_at "ds"
    refine slL (frzEnd ?_)
    walk_at "ds"
    have c2 : cutD [D.str "some", .int a, .int b, .bl s] (some 3) none = [.bl s] := by
      rw [show (3 : Int) = ((3 : Nat) : Int) from rfl, cut_drop]; rfl
    have c3 : cutD (toDs (L ++ [Wk.sme a b s])) none (some (-1)) = toDs L := by
      rw [toDs_app, show toDs [Wk.sme a b s] = [toD (Wk.sme a b s)] from by simp [toDs], cut_last]
    rw [c2]
    refine ⟨Nat.le_of_ble_eq_true rfl, ?_⟩
    walk_at "ds"
    rw [c3]
    exact fin (.sme i j s) _ (by rw [toD]; rfl) rfl
  | lop a b s v =>
    rw [toD]
    walk_at "ds"
    refine slL (frzEnd ?_)
    walk_at "ds"
    have c2 : cutD [D.str "loop", .int a, .int b, .bl s, toD v] (some 3) none = [.bl s, toD v] := by
      rw [show (3 : Int) = ((3 : Nat) : Int) from rfl, cut_drop]; rfl
    have c3 : cutD (toDs (L ++ [Wk.lop a b s v])) none (some (-1)) = toDs L := by
      rw [toDs_app, show toDs [Wk.lop a b s v] = [toD (Wk.lop a b s v)] from by simp [toDs], cut_last]
    rw [c2]
    refine ⟨Nat.le_of_ble_eq_true rfl, ?_⟩
    walk_at "ds"
    rw [c3]
    exact fin (.lop i j s v) _ (by rw [toD]; rfl) rfl
  | _ => cases hu
theorem told_at_rd : ∀ ds G Q E, pSp RTc ds G Q E → r_told_at (pSp RToc) (pSp RReq) (pSp Rpo) (pSp Rlo) { nx := fun _ G' => Q .non G', rt := Q } (startD 6 ds) G := by
  rintro ds G Q E ⟨_, ⟨w, ps, rfl, hc, hd, hps, hl, rfl⟩, hq⟩
  unfold r_told_at
  have hz : (3000 : Nat) ≤ sizeLine := by decide
  walk_at "ds"
  refine ⟨_, ⟨"paths", -1, rfl, rfl⟩, fun G1 g1 => ?_⟩
  walk_at "ds"
  refine ⟨_, ⟨w, rfl, by omega, by omega, rfl⟩, fun G2 g2 => ?_⟩
  walk_at "ds"
  dsimp only
  rw [enumD_map, List.length_map]
  refine forN ps.length _ (J := fun k ρ G' => ∃ x3 x4, ρ = [some (toD w), some (.tup (ps.map pthD)), some (.tup ((lpsW w).map fun q => pthD q.1)), x3, x4, none] ∧ Grow G G') ?_ ?_ _ _ ⟨_, _, rfl, g1.trans g2⟩
  · rintro ρ G3 ⟨x3, x4, rfl, g3⟩
    walk_at "ds"
    refine dForGo_of (I := fun rest ρ G' => ∃ don rs x4, ps = don ++ rs ∧ rest = rs.map pthD ∧ ρ = [some (toD w), some (.tup (ps.map pthD)), some (.tup ((lpsW w).map fun q => pthD q.1)), x3, x4, some (toD (tellW true w don))] ∧ Grow G G') ?_ ?_ _ _ _
      ⟨[], ps, _, rfl, rfl, rfl, g3⟩
    · rintro ρ G4 ⟨don, rs, x4, e, e2, rfl, g4⟩
      refine ⟨trivial, ?_⟩
      cases rs with
      | cons => cases e2
      | nil =>
        rw [List.append_nil] at e
        subst e
        walk_at "ds"
        exact hq _ g4
    · rintro z rest ρ G4 ⟨don, rs, x4, e, e2, rfl, g4⟩ K hK
      cases rs with
      | nil => cases e2
      | cons p rs =>
        injection e2 with e2 e3
        subst e2 e3
        refine ⟨trivial, ?_⟩
        have hcp := hps p (by rw [e]; simp)
        rw [← tell_cnt true don w p] at hcp
        obtain ⟨s1, s2, s3⟩ := tell_sz true don w
        walk_at "ds"
        refine ⟨_, ⟨_, _, true, rfl, by omega, by omega, hcp, rfl⟩, fun G5 g5 => ?_⟩
        walk_at "ds"
        rw [← tell_snoc]
        exact hK _ _ ⟨don ++ [p], rs, _, by rw [e]; simp, rfl, rfl, g4.trans g5⟩
  · rintro k hk ρ G3 ⟨x3, x4, rfl, g3⟩ K hK
    have e := getD_left (ps := ps) (r := []) hk
    rw [List.append_nil] at e
    have hcp := hps _ (List.getElem_mem hk)
    have hlp := cnt_len hcp
    rw [e]
    walk_at "ds"
    refine ⟨_, ⟨w, _, true, rfl, xok_path _ (by omega), ⟨fun _ => ⟨_, rfl, hcp⟩, fun _ => rfl⟩, rfl⟩, fun G4 g4 => ?_⟩
    walk_at "ds"
    refine ⟨_, ⟨"loop", _, rfl, rfl⟩, fun G5 g5 => ?_⟩
    exact hK _ _ ⟨_, _, rfl, (g3.trans g4).trans g5⟩
end K12

namespace K12
open PySem L2 Dl K03 K04
local macro_rules | `(tactic| walk_at "ds") => `(tactic| repeat' with_reducible first
  | fail "stuck")
def minI : List Int → Int
  | [] => 0
  | x :: xs => xs.foldl min x
theorem foldl_min : ∀ (xs : List Int) (x : Int), xs.foldl min x ≤ x ∧ (∀ y ∈ xs, xs.foldl min x ≤ y) ∧ (xs.foldl min x = x ∨ xs.foldl min x ∈ xs)
  | [], x => ⟨Int.le_refl _, (fun _ h => nomatch h), .inl rfl⟩
  | z :: xs, x => by
    obtain ⟨h1, h2, h3⟩ := foldl_min xs (min x z)
    rw [List.foldl_cons]
    refine ⟨by omega, fun y hy => ?_, ?_⟩
    · rcases List.mem_cons.mp hy with rfl | hy
      · omega
      · exact h2 y hy
    · rcases h3 with h3 | h3
      · rw [h3]
        by_cases h : x ≤ z
        · exact .inl (by omega)
        · exact .inr (by rw [show min x z = z by omega]; exact List.mem_cons_self ..)
      · exact .inr (List.mem_cons_of_mem _ h3)
theorem min_is {ns : List Int} {m : Int} (h : m ∈ ns) (h2 : ∀ y ∈ ns, m ≤ y) : m = minI ns := by
  cases ns with
  | nil => cases h
  | cons x xs =>
    obtain ⟨h3, h4, h5⟩ := foldl_min xs x
    show m = xs.foldl min x
    have a1 : xs.foldl min x ≤ m := by
      rcases List.mem_cons.mp h with rfl | h
      · exact h3
      · exact h4 m h
    have a2 : m ≤ xs.foldl min x := by
      rcases h5 with h5 | h5
      · rw [h5]; exact h2 x (List.mem_cons_self ..)
      · exact h2 _ (List.mem_cons_of_mem _ h5)
    omega
mutual
/-- the fewest ticks of a run -/
def fewW : Wk → Int
  | .tick n => n
  | .sme a _ _ => a
  | .lop a _ _ w => a * fewW w
  | .eit ws => minI (fewWs ws)
  | .row ws => (fewWs ws).sum
  | .bes a b => fewW a + fewW b
def fewWs : List Wk → List Int
  | [] => []
  | w :: ws => fewW w :: fewWs ws
end
theorem fewWs_map : ∀ ws : List Wk, fewWs ws = ws.map fewW
  | [] => by simp [fewWs]
  | w :: ws => by simp [fewWs, fewWs_map ws]
def Post (l : List (Pth × Wk)) : Prop := ∀ L1 q L2, l = L1 ++ q :: L2 → ∀ (k : Nat) u, (innW q.2)[k]? = some u → (q.1 ++ [k], u) ∈ L2
theorem post_app {l m : List (Pth × Wk)} (h : Post l) (h2 : Post m) : Post (l ++ m) := by
  intro L1 q L2 e k u hu
  rcases List.append_eq_append_iff.mp e with ⟨a, e1, e2⟩ | ⟨c, e1, e2⟩
  · exact h2 a q L2 e2 k u hu
  · cases c with
    | nil => exact h2 [] q L2 (by simpa using e2.symm) k u hu
    | cons x c =>
      injection e2 with e3 e4
      subst e3
      rw [e4]
      exact List.mem_append_left _ (h L1 q c e1 k u hu)
theorem post_one {p : Pth} {w : Wk} (h : Post (preWs p 0 (innW w))) : Post (preW p w) := by
  rw [preW_eq]
  intro L1 q L2 e k u hu
  cases L1 with
  | nil =>
    injection e with e1 e2
    subst e1
    rw [← e2]
    refine pres_at (k := 0) (j := k) hu _ ?_
    rw [Nat.zero_add, preW_eq]
    exact List.mem_cons_self ..
  | cons x L1 =>
    injection e with e1 e2
    exact h L1 q L2 e2 k u hu
mutual
theorem post_W : ∀ (w : Wk) (p : Pth), Post (preW p w)
  | .tick n, p => by
    intro L1 q L2 e k u hu
    rw [preW] at e
    have hm : q ∈ [(p, Wk.tick n)] := by rw [e]; simp
    rw [List.mem_singleton] at hm; subst hm
    simp [innW] at hu
  | .sme a b t, p => by
    intro L1 q L2 e k u hu
    rw [preW] at e
    have hm : q ∈ [(p, Wk.sme a b t)] := by rw [e]; simp
    rw [List.mem_singleton] at hm; subst hm
    simp [innW] at hu
  | .lop a b t w, p => post_one (w := .lop a b t w) (by rw [innW, preWs, preWs, List.append_nil]; exact post_W w _)
  | .eit ws, p => post_one (w := .eit ws) (post_Ws ws p 0)
  | .row ws, p => post_one (w := .row ws) (post_Ws ws p 0)
  | .bes a b, p => post_one (w := .bes a b) (by rw [innW, preWs, preWs, preWs, List.append_nil]; exact post_app (post_W a _) (post_W b _))
theorem post_Ws : ∀ (ws : List Wk) (p : Pth) (k : Nat), Post (preWs p k ws)
  | [], p, k => by
    intro L1 q L2 e
    rw [preWs] at e
    simp at e
  | w :: ws, p, k => by rw [preWs]; exact post_app (post_W w _) (post_Ws ws p (k + 1))
end
def kP (p : Pth) : KT := p.map fun k => Sum.inl ((k : Nat) : Int)
theorem kP_inj : ∀ {p q : Pth}, kP p = kP q → p = q
  | [], [], _ => rfl
  | [], _ :: _, h => by simp [kP] at h
  | _ :: _, [], h => by simp [kP] at h
  | k :: p, j :: q, h => by
    simp only [kP, List.map_cons, List.cons.injEq] at h
    obtain ⟨h1, h2⟩ := h
    have e : ((k : Nat) : Int) = (j : Nat) := Sum.inl.inj h1
    rw [kP_inj (p := p) (q := q) h2, show k = j from by omega]
theorem numK_pth : ∀ p : Pth, numK (p.map ixD) = some (kP p)
  | [] => rfl
  | k :: p => by
    have ih := numK_pth p
    unfold numK at ih ⊢
    rw [List.map_cons, List.mapM_cons, ih]
    simp [ixD, kP]
theorem keyN_pth (p : Pth) : keyN (pthD p) = some (kP p) := numK_pth p
theorem getT_none {k : KT} : ∀ {a : List (KT × D)}, (a.any fun kv => decide (kv.1 = k)) = false → getT a k = none
  | [], _ => rfl
  | p :: a, h => by
    simp only [List.any_cons, Bool.or_eq_false_iff, decide_eq_false_iff_not] at h
    rw [getT, if_neg h.1, getT_none h.2]
theorem getT_some {k : KT} : ∀ {a : List (KT × D)}, (a.any fun kv => decide (kv.1 = k)) = true → ∃ d, getT a k = some d
  | [], h => by simp at h
  | p :: a, h => by
    rw [getT]
    by_cases e : p.1 = k
    · rw [if_pos e]; exact ⟨_, rfl⟩
    · rw [if_neg e]
      simp only [List.any_cons, Bool.or_eq_true, decide_eq_true_eq] at h
      exact getT_some (h.resolve_left e)
theorem getT_app {k : KT} : ∀ {a b : List (KT × D)}, getT (a ++ b) k = (getT a k).or (getT b k)
  | [], b => by simp [getT]
  | p :: a, b => by
    rw [List.cons_append, getT, getT]
    by_cases h : p.1 = k
    · rw [if_pos h, if_pos h]; rfl
    · rw [if_neg h, if_neg h, getT_app]
theorem getT_map {k j : KT} {d : D} : ∀ {a : List (KT × D)}, getT (a.map fun kv => if kv.1 = k then (kv.1, d) else kv) j = if j = k then (getT a j).map fun _ => d else getT a j
  | [] => by by_cases h : j = k <;> simp [getT, h]
  | p :: a => by
    rw [List.map_cons, getT, getT_map (a := a)]
    by_cases h : p.1 = k
    · rw [if_pos h]
      by_cases hj : j = k
      · subst hj
        dsimp only
        rw [if_pos h, if_pos rfl, getT, if_pos h]; rfl
      · have : ¬ p.1 = j := fun e => hj (by rw [← e, h])
        dsimp only
        rw [if_neg this, if_neg hj, getT, if_neg this, if_neg hj]
    · rw [if_neg h]
      by_cases hj : p.1 = j
      · have : ¬ j = k := fun e => h (by rw [hj, e])
        rw [if_pos hj, if_neg this, getT, if_pos hj]
      · rw [if_neg hj, getT, if_neg hj]
theorem getT_putT {kvs : List (KT × D)} {k j : KT} {d : D} : getT (putT kvs k d) j = if j = k then some d else getT kvs j := by
  unfold putT
  cases h : (kvs.any fun kv => decide (kv.1 = k)) with
  | true =>
    rw [if_pos rfl, getT_map]
    by_cases hj : j = k
    · subst hj
      obtain ⟨e, he⟩ := getT_some h
      rw [if_pos rfl, if_pos rfl, he]; rfl
    · rw [if_neg hj, if_neg hj]
  | false =>
    rw [if_neg (by decide), getT_app]
    by_cases hj : j = k
    · subst hj
      rw [getT_none h, if_pos rfl]
      simp [getT]
    · rw [if_neg hj]
      have : getT [(k, d)] j = none := by rw [getT, if_neg (fun e => hj e.symm)]; rfl
      rw [this]
      cases getT kvs j <;> rfl
theorem putT_len {kvs : List (KT × D)} {k : KT} {d : D} : (putT kvs k d).length ≤ kvs.length + 1 := by
  unfold putT
  split
  · rw [List.length_map]; omega
  · rw [List.length_append]; simp
end K12

namespace K12
open PySem L2 Dl K03 K04
local macro_rules | `(tactic| walk_at "ds") => `(tactic| repeat' with_reducible first
  | refine iVar (by with_unfolding_all rfl) ?_
  | refine iCons ?_
  | refine iNil ?_
  | refine iC ?_
  | refine iOp ?_
  | refine iSeq ?_
  | refine iAsg ?_
  | refine iGNm ?_
  | refine iTup ?_
  | refine iFrz ?_
  | refine iTst ?_
  | refine iIfS ?_
  | refine iRet ?_
  | refine iCall ?_
  | refine iRev ?_
  | refine revL ?_
  | refine iGTp (by with_unfolding_all rfl) ?_
  | refine iGsCons ?_
  | refine iGsNil ?_
  | refine iGSb ?_
  | refine lenOk (by with_unfolding_all rfl) ?_
  | refine frzEnd ?_
  | refine iIf ?_
  | refine ifT ?_
  | refine ifF ?_
  | refine iCB ?_
  | refine iFor ?_
  | refine iISq ?_
  | refine rIx_i (by with_unfolding_all rfl) (by with_unfolding_all rfl) ?_
  | refine rIx_i (by with_unfolding_all rfl) atI_0 ?_
  | refine eq_strT ?_
  | refine eq_strF (by with_unfolding_all rfl) ?_
  | refine add_ii ?_
  | refine len_t ?_
  | refine iIRg1 ?_
  | refine inn_T (by with_unfolding_all rfl) (by decide +kernel) (by decide +kernel) (by decide +kernel) ?_
  | refine inn_F (by with_unfolding_all rfl) (by decide +kernel) (by decide +kernel) (by decide +kernel) ?_
  | fail "stuck")
theorem iDGetT {td ty : DTE} {ρ : DSt} {G : GH} {Q : DK} (h : td ρ G fun x G1 => ty ρ G1 fun y G2 => ∃ a kvs k v, x = .ref a ∧ G2 a = some (.dtp kvs) ∧ keyN y = some k ∧ getT kvs k = some v ∧ Q v G2) : dDGetT td ty ρ G Q := h
theorem iNewT {ρ : DSt} {G : GH} {Q : DK} (h : ∀ p, G p = none → Q (.ref p) (updG G p (.dtp []))) : dNewT ρ G Q := h
theorem cmul_s {i j : Int} (h1 : 0 ≤ i) (h2 : i ≤ 999) : CMul i j := by
  refine .inl ⟨?_, ?_⟩
  · have : (-2 ^ 64 : Int) < 0 := by decide
    omega
  · have : (2 : Int) ^ 64 = 18446744073709551616 := by decide
    omega
def Rfe : List D → D → Prop := fun ds d => ∃ w, ds = [toD w] ∧ okW 999 w ∧ cW w ≤ 400 ∧ dW w ≤ 400 ∧ d = .int (fewW w)
theorem lcG {α : Type} (xs : List α) (g h : α → D) {wi : DTI} {ct : Dl.CT} {te : DTE} {ρ : DSt} {vs : List Nat} {G : GH} {Q : DK} (hw : ∀ P : List D → (GH → Prop) → GH → Prop, (∀ ok G1, (∀ G, ok G) → Grow G G1 → P (xs.map g) ok G1) → wi ρ G P)
    (hl : xs.length ≤ sizeLine) (hf : ∀ x ∈ xs, ∃ ρ2, bindC ct (g x) (wipeD ρ vs) = some ρ2 ∧ ∀ (G2 : GH) (K : DK), Grow G G2 → (∀ G', Grow G2 G' → K (h x) G') → te ρ2 G2 K)
    (hq : ∀ G', Grow G G' → Q (.lst (xs.map h)) G') : dLc wi ct dYes te vs ρ G (frzK Q) := by
  unfold dLc
  refine hw _ ?_
  intro ok G1 hok g1 a ha
  refine dLcGo_of (I := fun rest acc G' => ∃ rs, rest = rs.map g ∧ acc ++ rs.map h = xs.map h ∧ (∀ x ∈ rs, x ∈ xs) ∧ Grow G1 G' ∧ G' a = some (.lst acc)) ?_ ?_ _ [] _ ⟨xs, rfl, rfl, fun _ h => h, Grow.upd ha, updG_same⟩
  · rintro acc G' ⟨rs, e0, e, -, gg, ea⟩
    cases rs with
    | cons => cases e0
    | nil =>
      rw [List.map_nil, List.append_nil] at e
      subst e
      exact ⟨hok _, frzR ea (hq _ (g1.trans (Grow.drop ha gg)))⟩
  · rintro x rest acc G' ⟨rs, e0, e, m, gg, ea⟩
    cases rs with
    | nil => cases e0
    | cons r rs =>
      injection e0 with e1 e2
      subst e1 e2
      obtain ⟨ρ2, e2, k⟩ := hf r (m r (List.mem_cons_self ..))
      refine ⟨hok _, ρ2, e2, fun K hK => k G' K (g1.trans gg) fun G4 g4 => ?_⟩
      have hlen := congrArg List.length e
      simp only [List.length_append, List.length_map, List.length_cons] at hlen
      exact hK _ G4 (g4 _ _ ea) (by omega) ⟨rs, rfl, by rw [← e]; simp, fun y hy => m y (List.mem_cons_of_mem _ hy), Grow.upd2 ha (gg.trans g4), updG_same⟩
theorem intsD_ints : ∀ ns : List Int, intsD (ns.map D.int) = some ns
  | [] => rfl
  | i :: ns => by rw [List.map_cons, intsD, intsD_ints ns]; rfl
theorem fewest_ticks_rd : ∀ ds G Q E, pSp Rfe ds G Q E → r_fewest_ticks (pSp Rall) { nx := fun _ G' => Q .non G', rt := Q } (startD 7 ds) G := by
  rintro ds G Q E ⟨_, ⟨w, rfl, hok, hc, hd, rfl⟩, hq⟩
  unfold r_fewest_ticks
  have hz : (2000 : Nat) ≤ sizeLine := by decide
  have hlen : (preW [] w).length ≤ 400 := by rw [pre_len]; exact hc
  walk_at "ds"
  refine iNewT fun a ha => ?_
  walk_at "ds"
  refine ⟨_, ⟨w, rfl, hc, hd, rfl⟩, fun G1 g1 => ?_⟩
  walk_at "ds"
  have e1 : G1 a = some (.dtp []) := g1 _ _ updG_same
  have gx : Grow G G1 := (Grow.upd ha).trans g1
  refine dForGo_of (I := fun rest ρ G' => ∃ L1 L2 kvs x2 x3 x4 x5 x6, preW [] w = L1 ++ L2 ∧ rest = (L1.map prD).reverse ∧ ρ = [some (toD w), some (.ref a), x2, x3, x4, x5, x6] ∧ G' a = some (.dtp kvs) ∧ (∀ q ∈ L2, getT kvs (kP q.1) = some (.int (fewW q.2))) ∧ kvs.length ≤ L2.length ∧ (∀ b o, b ≠ a → G b = some o → G' b = some o)) ?_ ?_ _ _ _
    ⟨preW [] w, [], [], _, _, _, _, _, by simp, rfl, rfl, e1, (fun q hq => nomatch hq), Nat.le_refl _, fun b o n e => gx b o e⟩
  · rintro ρ G2 ⟨L1, L2, kvs, x2, x3, x4, x5, x6, eL, e0, rfl, e2, hg, -, g2⟩
    refine ⟨trivial, ?_⟩
    have : L1 = [] := by
      cases L1 with
      | nil => rfl
      | cons x L1 => have := congrArg List.length e0; simp at this
    subst this
    walk_at "ds"
    refine iDGetT ?_
    walk_at "ds"
    refine ⟨a, kvs, _, _, rfl, e2, keyN_pth [], hg ([], w) (by rw [← List.nil_append L2, ← eL, preW_eq]; exact List.mem_cons_self ..), hq _ fun b o e => g2 b o ?_ e⟩
    rintro rfl
    rw [ha] at e; cases e
  · rintro z rest ρ G2 ⟨L1, L2, kvs, x2, x3, x4, x5, x6, eL, e0, rfl, e2, hg, hkl, g2⟩ K hK
    obtain ⟨L0, q, rfl⟩ : ∃ L0 q, L1 = L0 ++ [q] := by
      rcases List.eq_nil_or_concat L1 with e | ⟨L, u, e⟩
      · subst e; cases e0
      · exact ⟨L, u, by rw [e, List.concat_eq_append]⟩
    rw [List.map_append, List.map_cons, List.map_nil, List.reverse_append, List.reverse_cons, List.reverse_nil, List.nil_append, List.singleton_append] at e0
    injection e0 with e01 e02
    subst e01 e02
    rw [List.append_assoc, List.singleton_append] at eL
    obtain ⟨p, u⟩ := q
    have hm : (p, u) ∈ preW [] w := by rw [eL]; simp
    have hch := post_W w [] L0 (p, u) L2 eL
    have hp : p.length + 1 ≤ dW w := by have := pre_plen hm; simpa using this
    have hu : okW 999 u := pre_ind (P := fun v => okW 999 v) (fun _ _ h hx => inn_ok h hx) hok hm
    have hl2 : L0.length + (L2.length + 1) ≤ 400 := by have := congrArg List.length eL; rw [List.length_append, List.length_cons] at this; omega
    refine ⟨trivial, ?_⟩
    have fin : ∀ (i : Int) (x5 x6 : Option D) (G3 : GH), i = fewW u → Grow G2 G3 → K [some (toD w), some (.ref a), some (pthD p), some (toD u), some (.str (wordW u)), x5, x6] (updG G3 a (.dtp (putT kvs (kP p) (.int i)))) := by
      intro i x5 x6 G3 ei g3
      subst ei
      refine hK _ _ ⟨L0, (p, u) :: L2, _, _, _, _, _, _, eL, rfl, rfl, updG_same, fun q hq => ?_, Nat.le_trans putT_len (by rw [List.length_cons]; omega), fun b o n e => by rw [updG_ne n]; exact g3 b o (g2 b o n e)⟩
      rw [getT_putT]
      by_cases e : kP q.1 = kP p
      · rw [if_pos e]
        have e := kP_inj e
        have hq2 : q ∈ preW [] w := by rw [eL]; exact List.mem_append_right _ hq
        obtain ⟨r1, l1, a1, a2, a3, a4⟩ := pre_along w [] q hq2
        obtain ⟨r2, l2, b1, b2, b3, b4⟩ := pre_along w [] (p, u) hm
        rw [List.nil_append] at a1 b1
        rw [← a1, e] at a2
        rw [← b1] at b2
        have b2 : alongW w p = some l2 := b2
        rw [a2] at b2
        injection b2 with b2
        subst b2
        rw [a3] at b3
        injection b3 with b3
        rw [show fewW q.2 = fewW u from by rw [b3]]
      · rw [if_neg e]
        rcases List.mem_cons.mp hq with h | h
        · exact (e (by rw [h])).elim
        · exact hg q h
    have ck : ∀ (k : Nat) (x : D), x = ixD k → keyN (.tup (p.map ixD ++ [x])) = some (kP (p ++ [k])) := by
      intro k x hx
      subst hx
      rw [show D.tup (p.map ixD ++ [ixD k]) = pthD (p ++ [k]) from by simp [pthD]]
      exact keyN_pth _
    have child : ∀ (k : Nat) (x : D) (v : Wk) (G3 : GH) (Q3 : DK), x = ixD k → (innW u)[k]? = some v → Grow G2 G3 → Q3 (.int (fewW v)) G3 → ∃ a' kvs' k' v', D.ref a = .ref a' ∧ G3 a' = some (.dtp kvs') ∧ keyN (.tup (p.map ixD ++ [x])) = some k' ∧ getT kvs' k' = some v' ∧ Q3 v' G3 := by
      intro k x v G3 Q3 hx hv g3 h
      subst hx
      have e : D.tup (p.map ixD ++ [ixD k]) = pthD (p ++ [k]) := by simp [pthD]
      rw [e]
      exact ⟨a, kvs, _, _, rfl, g3 _ _ e2, keyN_pth _, hg _ (hch k v hv), h⟩
    have hpl : (p.map ixD).length = p.length := List.length_map _
    rw [show prD (p, u) = D.tup [pthD p, toD u] from rfl]
    walk_at "ds"
    refine ix0 ?_
    walk_at "ds"
    cases u with
    | tick n =>
      rw [wordW, toD]
      walk_at "ds"
      exact ⟨a, kvs, _, rfl, e2, keyN_pth p, by omega, fin n _ _ G2 (by rw [fewW]) (Grow.refl _)⟩
    | sme b c t =>
      rw [wordW, toD]
      walk_at "ds"
      exact ⟨a, kvs, _, rfl, e2, keyN_pth p, by omega, fin b _ _ G2 (by rw [fewW]) (Grow.refl _)⟩
    | lop b c t v =>
      rw [okW] at hu
      rw [wordW, toD]
      walk_at "ds"
      refine iDGetT ?_
      rw [show pthD p = D.tup (p.map ixD) from rfl]
      walk_at "ds"
      refine add_tt (by rw [hpl]; simp only [List.length_cons, List.length_nil]; omega) ?_
      refine ⟨a, kvs, kP (p ++ [0]), .int (fewW v), rfl, e2, ck 0 _ rfl, hg _ (hch 0 v rfl), ?_⟩
      refine mul_ii (cmul_s hu.1 (by omega)) ?_
      walk_at "ds"
      exact ⟨a, kvs, _, rfl, e2, keyN_pth p, by omega, fin _ _ _ G2 (by rw [fewW]) (Grow.refl _)⟩
    | bes b c =>
      rw [wordW, toD]
      rw [show pthD p = D.tup (p.map ixD) from rfl]
      walk_at "ds"
      refine iDGetT ?_
      walk_at "ds"
      refine add_tt (by rw [hpl]; simp only [List.length_cons, List.length_nil]; omega) ?_
      refine ⟨a, kvs, kP (p ++ [0]), .int (fewW b), rfl, e2, ck 0 _ rfl, hg _ (hch 0 b rfl), ?_⟩
      refine iDGetT ?_
      walk_at "ds"
      refine add_tt (by rw [hpl]; simp only [List.length_cons, List.length_nil]; omega) ?_
      refine ⟨a, kvs, kP (p ++ [1]), .int (fewW c), rfl, e2, ck 1 _ rfl, hg _ (hch 1 c rfl), ?_⟩
      walk_at "ds"
      exact ⟨a, kvs, _, rfl, e2, keyN_pth p, by omega, fin _ _ _ G2 (by rw [fewW]) (Grow.refl _)⟩
    | row ws =>
      rw [wordW, toD]
      rw [show pthD p = D.tup (p.map ixD) from rfl]
      have hwl : ws.length ≤ 400 := by have := inn_len (.row ws); have := (pre_ind (P := fun v => cW v ≤ 400) (fun _ _ h hx => by have := inn_c hx; omega) hc hm : cW (.row ws) ≤ 400); simp only [innW] at *; omega
      walk_at "ds"
      refine lcG (List.range ws.length) (fun i : Nat => .int (0 + (i : Nat))) (fun i : Nat => .int (fewW (ws.getD i (.tick 0)))) ?_ (by rw [List.length_range]; omega) (fun i hi => ?_) fun G3 g3 => ?_
      · intro P hP
        walk_at "ds"
        rw [toDs_len]
        refine ⟨by omega, by omega, ?_⟩
        rw [rngD_map]
        exact hP _ _ (fun _ => trivial) (Grow.refl _)
      · have hi := List.mem_range.mp hi
        refine ⟨_, rfl, fun G3 K3 g3 hK3 => ?_⟩
        refine iDGetT ?_
        walk_at "ds"
        refine add_tt (by rw [hpl]; simp only [List.length_cons, List.length_nil]; omega) ?_
        refine child i _ (ws.getD i (.tick 0)) _ _ (by simp [ixD]) (by rw [List.getD_eq_getElem?_getD, innW, List.getElem?_eq_getElem hi]; rfl) g3 ?_
        exact hK3 _ (Grow.refl _)
      · have e : ((List.range ws.length).map fun i : Nat => D.int (fewW (ws.getD i (.tick 0)))) = (fewWs ws).map D.int := by
          rw [fewWs_map, List.map_map]
          refine List.ext_getElem (by simp) fun n h1 h2 => ?_
          simp at h1
          simp [List.getD_eq_getElem?_getD, List.getElem?_eq_getElem h1]
        rw [e]
        walk_at "ds"
        show (match intsD ((fewWs ws).map D.int) with | some ns => _ | none => False)
        rw [intsD_ints]
        walk_at "ds"
        exact ⟨a, kvs, _, rfl, g3 _ _ e2, keyN_pth p, by omega, fin _ _ _ G3 (by rw [fewW]) g3⟩
    | eit ws =>
      rw [okW] at hu
      rw [wordW, toD]
      rw [show pthD p = D.tup (p.map ixD) from rfl]
      have hwl : ws.length ≤ 400 := by have := inn_len (.eit ws); have := (pre_ind (P := fun v => cW v ≤ 400) (fun _ _ h hx => by have := inn_c hx; omega) hc hm : cW (.eit ws) ≤ 400); simp only [innW] at *; omega
      walk_at "ds"
      refine lcG (List.range ws.length) (fun i : Nat => .int (0 + (i : Nat))) (fun i : Nat => .int (fewW (ws.getD i (.tick 0)))) ?_ (by rw [List.length_range]; omega) (fun i hi => ?_) fun G3 g3 => ?_
      · intro P hP
        walk_at "ds"
        rw [toDs_len]
        refine ⟨by omega, by omega, ?_⟩
        rw [rngD_map]
        exact hP _ _ (fun _ => trivial) (Grow.refl _)
      · have hi := List.mem_range.mp hi
        refine ⟨_, rfl, fun G3 K3 g3 hK3 => ?_⟩
        refine iDGetT ?_
        walk_at "ds"
        refine add_tt (by rw [hpl]; simp only [List.length_cons, List.length_nil]; omega) ?_
        refine child i _ (ws.getD i (.tick 0)) _ _ (by simp [ixD]) (by rw [List.getD_eq_getElem?_getD, innW, List.getElem?_eq_getElem hi]; rfl) g3 ?_
        exact hK3 _ (Grow.refl _)
      · have e : ((List.range ws.length).map fun i : Nat => D.int (fewW (ws.getD i (.tick 0)))) = (fewWs ws).map D.int := by
          rw [fewWs_map, List.map_map]
          refine List.ext_getElem (by simp) fun n h1 h2 => ?_
          simp at h1
          simp [List.getD_eq_getElem?_getD, List.getElem?_eq_getElem h1]
        rw [e]
        walk_at "ds"
        show (match intsD ((fewWs ws).map D.int) with | some ns => _ | none => False)
        rw [intsD_ints]
        refine ⟨?_, fun m hm1 hm2 => ?_⟩
        · rw [fewWs_map, List.length_map]; exact List.length_pos_iff.mpr hu.1
        rw [min_is hm1 hm2]
        walk_at "ds"
        exact ⟨a, kvs, _, rfl, g3 _ _ e2, keyN_pth p, by omega, fin _ _ _ G3 (by rw [fewW]) g3⟩
end K12

namespace K12
open PySem L2 Dl K03 K04
local macro_rules | `(tactic| walk_at "ds") => `(tactic| repeat' with_reducible first
  | refine iVar (by with_unfolding_all rfl) ?_
  | refine iCons ?_
  | refine iNil ?_
  | refine iC ?_
  | refine iOp ?_
  | refine iSeq ?_
  | refine iAsg ?_
  | refine iGNm ?_
  | refine iTup ?_
  | refine iFrz ?_
  | refine iTst ?_
  | refine iIfS ?_
  | refine iRet ?_
  | refine iCall ?_
  | refine iNext ?_
  | refine iNeg ?_
  | refine iDrop ?_
  | refine lenOk (by with_unfolding_all rfl) ?_
  | refine iIf ?_
  | refine ifT ?_
  | refine ifF ?_
  | refine iCB ?_
  | refine iISq ?_
  | refine rIx_i (by with_unfolding_all rfl) (by with_unfolding_all rfl) ?_
  | refine rIx_i (by with_unfolding_all rfl) atI_0 ?_
  | refine eq_strT ?_
  | refine eq_strF (by with_unfolding_all rfl) ?_
  | refine int0 ?_
  | refine len_l ?_
  | refine inn_T (by with_unfolding_all rfl) (by decide +kernel) (by decide +kernel) (by decide +kernel) ?_
  | refine inn_F (by with_unfolding_all rfl) (by decide +kernel) (by decide +kernel) (by decide +kernel) ?_
  | fail "stuck")
def RfeL (n : Nat) : List D → D → Prop := fun ds d => ∃ w, ds = [toD w] ∧ okW 999 w ∧ cW w ≤ 400 ∧ dW w ≤ n ∧ d = .int (fewW w)
theorem law_fewest_rd {n : Nat} : ∀ ds G Q E, pSp (RfeL (n + 1)) ds G Q E → r_law_fewest spSubs (pSp (RfeL n)) { nx := fun _ G' => Q .non G', rt := Q } (startD 3 ds) G := by
  rintro ds G Q E ⟨_, ⟨w, rfl, hok, hc, hd, rfl⟩, hq⟩
  unfold r_law_fewest
  have hz : (2000 : Nat) ≤ sizeLine := by decide
  have hlen := inn_len w
  have hq0 := hq G (Grow.refl G)
  have mid : ∀ (s : Str) (its : List D) (K : DSt → GH → Prop), toD w = .tup (.str s :: its) → (∀ G', Grow G G' → K [some (toD w), some (.lst ((fewWs (innW w)).map D.int)), none] G') → (dAsg (dFrz (dLc (iSq (dFrz (dCall spSubs (dCons (dVar 0) dNil)))) (.one 2) dYes (dCall (pSp (RfeL n)) (dCons (dVar 2) dNil)) [2])) (gNm 1)) { nx := K, rt := Q } [some (toD w), none, none] G := by
    intro s its K e hK
    walk_at "ds"
    refine lcF (innW w) toD (fun u => .int (fewW u)) ?_ ?_ ?_ ?_
    · intro P hP
      walk_at "ds"
      refine ⟨w, rfl, fun pp G0 g0 hp0 e0 => frzR e0 ?_⟩
      rw [toDs_map]
      exact hP _ _ (fun _ => trivial) (Grow.drop hp0 g0)
    · omega
    · intro u hu
      have h1 := inn_c hu
      have h2 := inn_d hu
      refine ⟨_, rfl, fun G1 K hK => ?_⟩
      walk_at "ds"
      exact ⟨_, ⟨u, rfl, inn_ok hok hu, by omega, by omega, rfl⟩, fun G2 g2 => hK _ g2⟩
    · intro G1 g1
      rw [show (innW w).map (fun u => D.int (fewW u)) = (fewWs (innW w)).map D.int from by rw [fewWs_map, List.map_map]; rfl]
      exact hK G1 g1
  cases w with
  | tick m => rw [toD]; walk_at "ds"; exact hq0
  | sme a b t => rw [toD]; walk_at "ds"; exact hq0
  | lop a b t u =>
    have := mid "loop" [.int a, .int b, .bl t, toD u]
    rw [toD] at this ⊢
    walk_at "ds"
    refine this _ rfl fun G1 g1 => ?_
    simp only [innW, fewWs, List.map_cons, List.map_nil]
    walk_at "ds"
    rw [okW] at hok
    refine mul_ii (cmul_s hok.1 (by omega)) ?_
    rw [fewW] at hq
    exact hq _ g1
  | bes a b =>
    have := mid "beside" [toD a, toD b]
    rw [toD] at this ⊢
    walk_at "ds"
    refine this _ rfl fun G1 g1 => ?_
    simp only [innW, fewWs, List.map_cons, List.map_nil]
    walk_at "ds"
    rw [fewW] at hq
    show Q (.int ([fewW a, fewW b] : List Int).sum) G1
    rw [show ([fewW a, fewW b] : List Int).sum = fewW a + fewW b from by simp]
    exact hq _ g1
  | row ws =>
    have := mid "row" [.tup (toDs ws)]
    rw [toD] at this ⊢
    walk_at "ds"
    refine this _ rfl fun G1 g1 => ?_
    walk_at "ds"
    show (match intsD ((fewWs ws).map D.int) with | some ns => _ | none => False)
    rw [intsD_ints]
    rw [fewW] at hq
    exact hq _ g1
  | eit ws =>
    have := mid "either" [.tup (toDs ws)]
    rw [toD] at this ⊢
    walk_at "ds"
    refine this _ rfl fun G1 g1 => ?_
    walk_at "ds"
    show (match intsD ((fewWs ws).map D.int) with | some ns => _ | none => False)
    rw [intsD_ints]
    rw [okW] at hok
    rw [fewW] at hq
    refine ⟨by rw [fewWs_map, List.length_map]; exact List.length_pos_iff.mpr hok.1, fun m h1 h2 => ?_⟩
    rw [min_is h1 h2]
    exact hq _ g1
theorem minI_nn {ns : List Int} (h : ∀ y ∈ ns, 0 ≤ y) : 0 ≤ minI ns := by
  cases ns with
  | nil => exact Int.le_refl _
  | cons x xs =>
    obtain ⟨-, -, h3⟩ := foldl_min xs x
    show 0 ≤ xs.foldl min x
    rcases h3 with h3 | h3
    · rw [h3]; exact h x (List.mem_cons_self ..)
    · exact h _ (List.mem_cons_of_mem _ h3)
mutual
theorem few_nn : ∀ w : Wk, okW 999 w → 0 ≤ fewW w
  | .tick n, h => by rw [okW] at h; rw [fewW]; omega
  | .sme a b t, h => by rw [okW] at h; rw [fewW]; omega
  | .lop a b t w, h => by rw [okW] at h; rw [fewW]; exact Int.mul_nonneg h.1 (few_nn w h.2.2.2)
  | .eit ws, h => by rw [okW] at h; rw [fewW]; exact minI_nn (few_nns ws h.2)
  | .row ws, h => by
    rw [okW] at h; rw [fewW]
    have := few_nns ws h
    generalize fewWs ws = ns at this
    clear h
    induction ns with
    | nil => simp
    | cons x xs ih =>
      have h1 := this x (List.mem_cons_self ..)
      have h2 := ih fun y hy => this y (List.mem_cons_of_mem _ hy)
      rw [List.sum_cons]; omega
  | .bes a b, h => by
    rw [okW] at h; rw [fewW]
    have := few_nn a h.1
    have := few_nn b h.2
    omega
theorem few_nns : ∀ ws : List Wk, okWs 999 ws → ∀ y ∈ fewWs ws, 0 ≤ y
  | [], _, y, hy => by rw [fewWs] at hy; cases hy
  | w :: ws, h, y, hy => by
    rw [okWs] at h
    rw [fewWs] at hy
    rcases List.mem_cons.mp hy with rfl | hy
    · exact few_nn w h.1
    · exact few_nns ws h.2 y hy
end
def spWk : DSp := fun ds G Q _ => ∃ (a : Addr) (k : Nat), ds = [.ref a, .int (k : Nat)] ∧ k ≤ 3 ∧ FeedOk G a ∧ ∀ w G', Gw w 44 6 → 0 < fewW w → FeedOk G' a → KeepX a G G' → Q (toD w) G'
theorem szF_le {k : Nat} (h : k ≤ 3) : szF k ≤ 40 := by
  have : k = 0 ∨ k = 1 ∨ k = 2 ∨ k = 3 := by omega
  rcases this with rfl | rfl | rfl | rfl <;> decide
theorem law_work_rd {n m : Nat} (hn : 4 ≤ n) (hm : 4 ≤ m) : ∀ ds G Q E, spWk ds G Q E → r_law_work (pSp (RfeL n)) (spFW m) { nx := fun _ G' => Q .non G', rt := Q } (startD 3 ds) G := by
  rintro ds G Q E ⟨a, k, rfl, hk, hf, hq⟩
  unfold r_law_work
  have hs := szF_le hk
  walk_at "ds"
  refine ⟨a, k, rfl, by omega, by omega, hf, fun w G1 hw f1 k1 => ?_⟩
  have hc := hw.c
  have hd := hw.d
  walk_at "ds"
  refine ⟨_, ⟨w, rfl, hw.ok, by omega, by omega, rfl⟩, fun G2 g2 => ?_⟩
  walk_at "ds"
  refine ifD (fun h => ?_) (fun h => ?_)
  · walk_at "ds"
    exact hq w _ (hw.gw (by omega) (by omega)) h (f1.grow g2) (k1.trans (KeepX.of g2))
  · walk_at "ds"
    refine hq (.row [.tick 1, w]) _ ⟨?_, ?_, ?_⟩ ?_ (f1.grow g2) (k1.trans (KeepX.of g2))
    · rw [okW, okWs, okWs, okW, okWs]; exact ⟨by decide, hw.ok, trivial⟩
    · rw [cW, cWs, cWs, cW, cWs]; omega
    · rw [dW, dWs, dWs, dW, dWs]; omega
    · have := few_nn w hw.ok
      rw [fewW, fewWs, fewWs, fewW, fewWs]
      simp only [List.sum_cons, List.sum_nil]
      omega
def Rlw : List D → D → Prop := fun ds d => ∃ w, ds = [toD w] ∧ okW 999 w ∧ cW w ≤ 400 ∧ dW w ≤ 400 ∧ 0 < fewW w ∧ d = ixD (cW w)
theorem lets_work_rd : ∀ ds G Q E, pSp Rlw ds G Q E → r_lets_work (pSp Rall) (pSp RReq) (pSp Rfe) (pSp Rwf) { nx := fun _ G' => Q .non G', rt := Q } (startD 4 ds) G := by
  rintro ds G Q E ⟨_, ⟨w, rfl, hok, hc, hd, hp, rfl⟩, hq⟩
  unfold r_lets_work
  walk_at "ds"
  refine ⟨_, .inl ⟨w, rfl, hok, hc, hd, rfl⟩, fun G1 g1 => ?_⟩
  walk_at "ds"
  refine isNot_F ?_
  walk_at "ds"
  refine ⟨_, ⟨w, rfl, hok, hc, hd, rfl⟩, fun G2 g2 => ?_⟩
  walk_at "ds"
  rw [decide_eq_true (show fewW w > 0 from hp)]
  refine ⟨_, ⟨"ticks", -1, rfl, rfl⟩, fun G3 g3 => ?_⟩
  walk_at "ds"
  refine ⟨_, ⟨w, rfl, hc, hd, rfl⟩, fun G4 g4 => ?_⟩
  walk_at "ds"
  rw [List.length_map, pre_len]
  exact hq _ (((g1.trans g2).trans g3).trans g4)
end K12

namespace K12
open PySem L2 Dl K03 K04
local macro_rules | `(tactic| walk_at "ds") => `(tactic| repeat' with_reducible first
  | fail "stuck")
mutual
theorem eqvD_refl : ∀ d : D, pureD d = true → eqvD d d = true
  | .non, _ => by simp [eqvD]
  | .bl _, _ => by simp [eqvD]
  | .int _, _ => by simp [eqvD]
  | .str _, _ => by simp [eqvD]
  | .tup ds, h => by rw [eqvD]; exact eqvDs_refl ds (by simpa [pureD] using h)
  | .lst ds, h => by rw [eqvD]; exact eqvDs_refl ds (by simpa [pureD] using h)
  | .byt _, h => by simp [pureD] at h
  | .ref _, h => by simp [pureD] at h
  | .scr _, h => by simp [pureD] at h
  | .fn _ _ _ _, h => by simp [pureD] at h
  | .exh _ _ _ _ _, h => by simp [pureD] at h
theorem eqvDs_refl : ∀ ds : List D, pureDs ds = true → eqvDs ds ds = true
  | [], _ => by simp [eqvDs]
  | d :: ds, h => by
    simp only [pureDs, Bool.and_eq_true] at h
    rw [eqvDs, eqvD_refl d h.1, eqvDs_refl ds h.2]; rfl
end
theorem ne_same {x : D} {G : GH} {Q : DK} (hx : okD x) (h : Q (.bl false) G) : rCmp not x x G Q := by
  refine cmp_i hx hx ?_
  rw [eqvD_refl x hx.1]; exact h
theorem eq_same {x : D} {G : GH} {Q : DK} (hx : okD x) (h : Q (.bl true) G) : rCmp id x x G Q := by
  refine cmp_i hx hx ?_
  rw [eqvD_refl x hx.1]; exact h
theorem list_set_same : ∀ {ws : List Wk} {k : Nat} {u : Wk}, ws[k]? = some u → ws.set k u = ws
  | [], k, u, h => rfl
  | w :: ws, 0, u, h => by simp at h; subst h; rfl
  | w :: ws, k + 1, u, h => by rw [List.set_cons_succ, list_set_same (by simpa using h)]
theorem set_same {w u : Wk} {k : Nat} (h : (innW w)[k]? = some u) : setW w k u = w := by
  cases w with
  | tick n => simp [innW] at h
  | sme a b t => simp [innW] at h
  | lop a b t v =>
    have hk := (List.getElem?_eq_some_iff.mp h).1
    simp [innW] at hk; subst hk
    simp [innW] at h; subst h; rfl
  | eit ws => simp only [innW] at h; rw [setW, list_set_same h]
  | row ws => simp only [innW] at h; rw [setW, list_set_same h]
  | bes a b =>
    have hk := (List.getElem?_eq_some_iff.mp h).1
    simp [innW] at hk
    obtain rfl | rfl : k = 0 ∨ k = 1 := by omega
    · simp [innW] at h; subst h; rfl
    · simp [innW] at h; subst h; rfl
theorem set_set (w : Wk) (k : Nat) (x y : Wk) : setW (setW w k x) k y = setW w k y := by
  cases w with
  | bes a b => cases k <;> rfl
  | eit ws => simp [setW]
  | row ws => simp [setW]
  | _ => rfl
theorem inn_at_set {w u : Wk} {k : Nat} (x : Wk) (h : (innW w)[k]? = some u) : (innW (setW w k x))[k]? = some x := by
  rw [inn_set x h, List.getElem?_set_self (List.getElem?_eq_some_iff.mp h).1]
theorem snoc_cons {w : Wk} {k : Nat} {r : Pth} {L : List Wk} {u : Wk} (h : alongW w (k :: r) = some (L ++ [u])) : ∃ v L', (innW w)[k]? = some v ∧ alongW v r = some (L' ++ [u]) ∧ L = w :: L' := by
  obtain ⟨v, l', hv, e', e, hne⟩ := along_cons h
  obtain ⟨L', y, rfl⟩ := along_snoc e'
  rw [← List.cons_append] at e
  obtain ⟨e1, e2⟩ := List.append_inj' e rfl
  cases e2
  exact ⟨v, L', hv, e', e1⟩
theorem put_same : ∀ (p : Pth) (w : Wk) (L : List Wk) (u : Wk), alongW w p = some (L ++ [u]) → putW u w p = w
  | [], w, L, u, h => by
    rw [alongW] at h
    cases L with
    | nil => simp at h; subst h; rfl
    | cons a L => simp at h
  | k :: p, w, L, u, h => by
    obtain ⟨v, L', hv, e', -⟩ := snoc_cons h
    rw [putW, hv]
    dsimp only
    rw [put_same p v L' u e', set_same hv]
theorem along_put (x : Wk) : ∀ (p : Pth) (w : Wk) (l : List Wk), alongW w p = some l → ∃ L, alongW (putW x w p) p = some (L ++ [x])
  | [], w, l, h => ⟨[], rfl⟩
  | k :: p, w, l, h => by
    obtain ⟨v, l', hv, e', -, -⟩ := along_cons h
    obtain ⟨L, hL⟩ := along_put x p v l' e'
    rw [putW, hv]
    dsimp only
    refine ⟨setW w k (putW x v p) :: L, ?_⟩
    rw [alongW, inn_at_set _ hv]
    dsimp only
    rw [hL]; rfl
theorem put_put (x y : Wk) : ∀ (p : Pth) (w : Wk) (l : List Wk), alongW w p = some l → putW y (putW x w p) p = putW y w p
  | [], w, l, h => rfl
  | k :: p, w, l, h => by
    obtain ⟨v, l', hv, e', -, -⟩ := along_cons h
    have e : ∀ z, putW z w (k :: p) = setW w k (putW z v p) := fun z => by rw [putW, hv]
    rw [e x, e y, putW, inn_at_set _ hv]
    dsimp only
    rw [set_set, put_put x y p v l' e']
theorem put_c (x : Wk) : ∀ (p : Pth) (w : Wk) (L : List Wk) (u : Wk), alongW w p = some (L ++ [u]) → cW (putW x w p) + cW u = cW w + cW x
  | [], w, L, u, h => by
    rw [alongW] at h
    cases L with
    | nil => simp at h; subst h; rw [putW]; omega
    | cons a L => simp at h
  | k :: p, w, L, u, h => by
    obtain ⟨v, L', hv, e', -⟩ := snoc_cons h
    have ih := put_c x p v L' u e'
    have e : putW x w (k :: p) = setW w k (putW x v p) := by rw [putW, hv]
    rw [e]
    have s1 := setW_c (x := putW x v p) hv
    omega
theorem put_d (x : Wk) : ∀ (p : Pth) (w : Wk) (l : List Wk), alongW w p = some l → p.length + dW x ≤ dW (putW x w p)
  | [], w, l, h => by rw [putW]; simp
  | k :: p, w, l, h => by
    obtain ⟨v, l', hv, e', -, -⟩ := along_cons h
    have ih := put_d x p v l' e'
    have e : putW x w (k :: p) = setW w k (putW x v p) := by rw [putW, hv]
    have := inn_d (List.mem_of_getElem? (inn_at_set (putW x v p) hv))
    rw [e, List.length_cons]
    omega
theorem pre_base : ∀ (w : Wk) (p : Pth) (q : Pth × Wk), q ∈ preW p w → ∃ r, q.1 = p ++ r := fun w p q h => by
  obtain ⟨r, l, e, -⟩ := pre_along w p q h
  exact ⟨r, e⟩
mutual
theorem pre_shift : ∀ (w : Wk) (b p : Pth), preW (b ++ p) w = (preW p w).map fun q => (b ++ q.1, q.2)
  | .tick n, b, p => by simp [preW]
  | .sme a c t, b, p => by simp [preW]
  | .lop a c t w, b, p => by
    have h := pre_shift w b (p ++ [0])
    rw [← List.append_assoc] at h
    rw [preW, preW, List.map_cons, h]
  | .eit ws, b, p => by rw [preW, preW, List.map_cons, pres_shift ws b p 0]
  | .row ws, b, p => by rw [preW, preW, List.map_cons, pres_shift ws b p 0]
  | .bes a c, b, p => by
    have h := pre_shift a b (p ++ [0])
    have h2 := pre_shift c b (p ++ [1])
    rw [← List.append_assoc] at h h2
    rw [preW, preW, List.map_cons, List.map_append, h, h2]
theorem pres_shift : ∀ (ws : List Wk) (b p : Pth) (k : Nat), preWs (b ++ p) k ws = (preWs p k ws).map fun q => (b ++ q.1, q.2)
  | [], b, p, k => by simp [preWs]
  | w :: ws, b, p, k => by
    have h := pre_shift w b (p ++ [k])
    rw [← List.append_assoc] at h
    rw [preWs, preWs, List.map_append, h, pres_shift ws b p (k + 1)]
end
abbrev beg (s : Pth) (q : Pth × Wk) : Bool := decide (q.1.take s.length = s)
theorem beg_all {s : Pth} {l : List (Pth × Wk)} (h : ∀ q ∈ l, ∃ r, q.1 = s ++ r) : l.filter (beg s) = l := by
  refine List.filter_eq_self.mpr fun q hq => ?_
  obtain ⟨r, e⟩ := h q hq
  exact decide_eq_true (by rw [e]; simp)
theorem pres_beg (b : Pth) (s : Pth) (j : Nat) : ∀ (ws : List Wk) (k : Nat), k ≤ j → (preWs b k ws).filter (beg (b ++ j :: s)) = match ws[j - k]? with
    | some v => (preW (b ++ [j]) v).filter (beg (b ++ j :: s))
    | none => []
  | [], k, h => by simp [preWs]
  | w :: ws, k, h => by
    rw [preWs, List.filter_append]
    have off : ∀ (i : Nat) (v : Wk), i ≠ j → (preW (b ++ [i]) v).filter (beg (b ++ j :: s)) = [] := fun i v hi => by
      refine List.filter_eq_nil_iff.mpr fun q hq => ?_
      obtain ⟨r, e⟩ := pre_base v _ q hq
      simp only [decide_eq_true_eq]
      intro h2
      rw [e, List.append_assoc, List.take_append, List.take_of_length_le (by simp)] at h2
      have h3 := List.append_cancel_left h2
      have h4 : ((b ++ j :: s).length - b.length) = s.length + 1 := by simp
      rw [h4] at h3
      simp at h3
      exact hi h3.1
    have rest : (preWs b (k + 1) ws).filter (beg (b ++ j :: s)) = if k = j then [] else match ws[j - (k + 1)]? with
      | some v => (preW (b ++ [j]) v).filter (beg (b ++ j :: s))
      | none => [] := by
      by_cases e : k = j
      · rw [if_pos e]
        refine List.filter_eq_nil_iff.mpr fun q hq => ?_
        obtain ⟨i, u, r, l, e1, e2, -⟩ := pres_along ws b (k + 1) q hq
        simp only [decide_eq_true_eq]
        intro h2
        rw [e2, List.take_append, List.take_of_length_le (by simp)] at h2
        have h3 := List.append_cancel_left h2
        have h4 : ((b ++ j :: s).length - b.length) = s.length + 1 := by simp
        rw [h4] at h3
        simp at h3
        omega
      · rw [if_neg e]
        exact pres_beg b s j ws (k + 1) (by omega)
    rw [rest]
    by_cases e : k = j
    · subst e
      rw [if_pos rfl, List.append_nil, Nat.sub_self, List.getElem?_cons_zero]
    · rw [if_neg e, off k w e, List.nil_append, show j - k = (j - (k + 1)) + 1 from by omega, List.getElem?_cons_succ]
theorem pre_beg : ∀ (r b : Pth) (w : Wk) (L : List Wk) (u : Wk), alongW w r = some (L ++ [u]) → (preW b w).filter (beg (b ++ r)) = preW (b ++ r) u
  | [], b, w, L, u, h => by
    rw [alongW] at h
    cases L with
    | nil => simp at h; subst h; rw [List.append_nil]; exact beg_all fun q hq => pre_base w b q hq
    | cons a L => simp at h
  | k :: r, b, w, L, u, h => by
    obtain ⟨v, L', hv, e', -⟩ := snoc_cons h
    rw [preW_eq, List.filter_cons_of_neg, pres_beg b r k _ 0 (Nat.zero_le _), Nat.sub_zero, hv]
    · dsimp only
      have ih := pre_beg r (b ++ [k]) v L' u e'
      rw [List.append_assoc] at ih
      exact ih
    · simp only [decide_eq_true_eq]
      intro h2
      have := congrArg List.length h2
      simp at this
theorem pre_parts {w : Wk} {p : Pth} {L : List Wk} {u : Wk} (h : alongW w p = some (L ++ [u])) : ((preW [] w).filter (beg p)).map (fun q => (q.1.drop p.length, q.2)) = preW [] u := by
  have e := pre_beg p [] w L u h
  rw [List.nil_append] at e
  rw [e, show p = p ++ [] from by simp, pre_shift u p [], List.map_map]
  have : ((fun q : Pth × Wk => (q.1.drop (p ++ []).length, q.2)) ∘ fun q : Pth × Wk => (p ++ q.1, q.2)) = id := by
    funext q
    simp
  rw [this, List.map_id]
def pI (p : Pth) : List Int := p.map fun k : Nat => (k : Int)
theorem lex_app : ∀ (b p q : List Int), lexI (b ++ p) (b ++ q) = lexI p q
  | [], p, q => rfl
  | x :: b, p, q => by rw [List.cons_append, List.cons_append, lexI, if_pos rfl, lex_app b p q]
theorem pI_app (p q : Pth) : pI (p ++ q) = pI p ++ pI q := by simp [pI]
theorem lex_step {b : Pth} {i j : Nat} {r s : Pth} (h : i < j) : lexI (pI (b ++ i :: r)) (pI (b ++ j :: s)) = true := by
  rw [pI_app, pI_app, lex_app]
  show lexI (((i : Nat) : Int) :: pI r) (((j : Nat) : Int) :: pI s) = true
  rw [lexI, if_neg (by omega)]
  exact decide_eq_true (by omega)
theorem asc_one {p : Pth} {w : Wk} (h : (preWs p 0 (innW w)).Pairwise fun a b => lexI (pI a.1) (pI b.1) = true) : (preW p w).Pairwise fun a b => lexI (pI a.1) (pI b.1) = true := by
  rw [preW_eq]
  refine List.pairwise_cons.mpr ⟨fun b hb => ?_, h⟩
  obtain ⟨i, u, s, l, e1, e2, -⟩ := pres_along _ p 0 b hb
  rw [e2, pI_app]
  conv => lhs; arg 1; rw [← List.append_nil (pI p)]
  rw [lex_app]; rfl
mutual
theorem pre_asc : ∀ (w : Wk) (p : Pth), (preW p w).Pairwise fun a b => lexI (pI a.1) (pI b.1) = true
  | .tick n, p => by rw [preW]; exact List.pairwise_singleton _ _
  | .sme a b t, p => by rw [preW]; exact List.pairwise_singleton _ _
  | .lop a b t w, p => asc_one (w := .lop a b t w) (by rw [innW, preWs, preWs, List.append_nil]; exact pre_asc w _)
  | .eit ws, p => asc_one (w := .eit ws) (pres_asc ws p 0)
  | .row ws, p => asc_one (w := .row ws) (pres_asc ws p 0)
  | .bes a b, p => asc_one (w := .bes a b) (by
    rw [innW, preWs, preWs, preWs, List.append_nil]
    refine List.pairwise_append.mpr ⟨pre_asc a _, pre_asc b _, fun x hx y hy => ?_⟩
    obtain ⟨r, e⟩ := pre_base a _ x hx
    obtain ⟨s, e2⟩ := pre_base b _ y hy
    rw [e, e2, List.append_assoc, List.append_assoc]
    exact lex_step (by omega))
theorem pres_asc : ∀ (ws : List Wk) (p : Pth) (k : Nat), (preWs p k ws).Pairwise fun a b => lexI (pI a.1) (pI b.1) = true
  | [], p, k => by rw [preWs]; exact List.Pairwise.nil
  | w :: ws, p, k => by
    rw [preWs]
    refine List.pairwise_append.mpr ⟨pre_asc w _, pres_asc ws p (k + 1), fun a ha b hb => ?_⟩
    obtain ⟨r, e⟩ := pre_base w _ a ha
    obtain ⟨i, u, s, l, e1, e2, -⟩ := pres_along ws p (k + 1) b hb
    rw [e, e2, List.append_assoc]
    exact lex_step (by omega)
end
end K12

namespace K12
open PySem L2 Dl K03 K04
local macro_rules | `(tactic| walk_at "ds") => `(tactic| repeat' with_reducible first
  | refine iVar (by with_unfolding_all rfl) ?_
  | refine iCons ?_
  | refine iNil ?_
  | refine iC ?_
  | refine iOp ?_
  | refine iSeq ?_
  | refine iAsg ?_
  | refine iGNm ?_
  | refine iTup ?_
  | refine iFrz ?_
  | refine iTst ?_
  | refine iIfS ?_
  | refine iRet ?_
  | refine iCall ?_
  | refine iNext ?_
  | refine iGTp (by with_unfolding_all rfl) ?_
  | refine iGsCons ?_
  | refine iGsNil ?_
  | refine lenOk (by with_unfolding_all rfl) ?_
  | refine frzEnd ?_
  | refine slT ?_
  | refine iTru ?_
  | refine truB ?_
  | refine iOr ?_
  | refine iNot ?_
  | refine ifDF (by decide) ?_
  | refine ifF ?_
  | refine iCB ?_
  | refine iSl ?_
  | refine iP ?_
  | refine iNoP ?_
  | refine iFor ?_
  | refine iISq ?_
  | refine rIx_i (by with_unfolding_all rfl) (by with_unfolding_all rfl) ?_
  | refine rIx_i (by with_unfolding_all rfl) atI_0 ?_
  | refine add_ii ?_
  | refine int0 ?_
  | refine len_t ?_
  | refine tupC_l ?_
  | refine ifNT ?_
  | refine ifDF (by with_reducible_and_instances first | omega | (simp only [List.length_cons, List.length_nil]; omega)) ?_
  | fail "stuck")
theorem iSortP {te : DTE} {ρ : DSt} {G : GH} {Q : DK} (h : te ρ G fun x G1 => ∃ ps : List (List Int), lsOf G1 x = some (ps.map ptI) ∧ ps.length < 64 ∧ ps.Pairwise (fun a b => lexI a b = true) ∧ ∀ p, G1 p = none → Q (.ref p) (updG G1 p (.lst (ps.map ptI)))) : dSortSetP te ρ G Q := h
theorem ptI_pI (p : Pth) : ptI (pI p) = pthD p := by rw [ptI, pI, pthD, List.map_map]; rfl
theorem ptI_map (L : List (Pth × Wk)) : (L.map fun q => pI q.1).map ptI = L.map fun q => pthD q.1 := by
  rw [List.map_map]
  exact List.map_congr_left fun q _ => ptI_pI q.1
theorem ok_int {i : Int} : okD (.int i) := ⟨rfl, by simp [depD]⟩
theorem pr_sm {w : Wk} {n d : Nat} (hw : Gw w n d) (hn : n ≤ 400) (hd : d ≤ 25) {p : Pth} {q : Pth × Wk} (hq : q ∈ preW [] w) : smD (prD q) = true ∧ depD (prD q) ≤ 51 := by
  have e12 : (10 : Nat) ^ 12 = 1000000000000 := by decide
  have hc := hw.c
  have g := hw.part hq
  have h2 := pre_small hq
  have s1 := sm_pth (p := q.1) fun k hk => by have := h2 k hk; omega
  have s2 := g.sm
  have d1 := dep_pth q.1
  have d2 := g.dp
  exact ⟨by simp [prD, smD, smDs, s1, s2], by simp only [prD, depD, depDs]; omega⟩
theorem parts_ok {w : Wk} {n d : Nat} (hw : Gw w n d) (hn : n ≤ 400) (hd : d ≤ 25) : okD (.tup ((preW [] w).map prD)) := by
  refine okD_of ?_ ?_
  · simp only [smD]
    exact smDs_iff.mpr fun x hx => by obtain ⟨q, hq, rfl⟩ := List.mem_map.mp hx; exact (pr_sm hw hn hd (p := []) hq).1
  · have := depDs_le (ds := (preW [] w).map prD) (n := 51) fun x hx => by obtain ⟨q, hq, rfl⟩ := List.mem_map.mp hx; exact (pr_sm hw hn hd (p := []) hq).2
    simp only [depD]; omega
def RPR : List D → D → Prop := fun ds d => ∃ w v, ds = [toD w, toD v] ∧ Gw w 60 12 ∧ Gw v 20 4 ∧ d = .bl true
theorem law_parts_right_rd : ∀ ds G Q E, pSp RPR ds G Q E → r_law_parts_right (pSp Riw) (pSp Rdp) (pSp Rsz) (pSp RWp) (pSp RPt) (pSp Rps) { nx := fun _ G' => Q .non G', rt := Q } (startD 10 ds) G := by
  rintro ds G Q E ⟨_, ⟨w, v, rfl, hw, hv, rfl⟩, hq⟩
  unfold r_law_parts_right
  have hz : (2000 : Nat) ≤ sizeLine := by decide
  have hc := hw.c
  have hd := hw.d
  have hlen : (preW [] w).length ≤ 60 := by rw [pre_len]; exact hc
  have okw := hw.okd (show 12 ≤ 30 by decide)
  have okv := hv.okd (show 4 ≤ 30 by decide)
  walk_at "ds"
  refine ⟨_, ⟨w, rfl, by omega, by omega, rfl⟩, fun G1 g1 => ?_⟩
  walk_at "ds"
  refine lcF (preW [] w) prD (fun q => pthD q.1) ?_ (by omega) ?_ ?_
  · intro P hP
    walk_at "ds"
    exact hP _ _ (fun _ => trivial) (Grow.refl _)
  · intro q hq
    refine ⟨_, rfl, fun G1 K hK => ?_⟩
    walk_at "ds"
    exact hK _ (Grow.refl _)
  intro G2 g2
  walk_at "ds"
  refine ⟨_, ⟨w, rfl, by omega, by omega, rfl⟩, fun G3 g3 => ?_⟩
  rw [show (.int (((preW [] w).map prD).length : Nat) : D) = ixD (cW w) from by rw [List.length_map, pre_len]; rfl]
  refine ne_same ok_int ?_
  walk_at "ds"
  refine iSortP ?_
  walk_at "ds"
  refine ⟨(preW [] w).map fun q => pI q.1, by rw [ptI_map]; rfl, by rw [List.length_map]; omega, List.pairwise_map.mpr (pre_asc w []), ?_⟩
  rw [ptI_map]
  refine frzEnd ?_
  refine ne_same ok_pths ?_
  walk_at "ds"
  refine rIx_i (ds := (preW [] w).map prD) (d := prD ([], w)) rfl (by rw [preW_eq]; exact atI_0) ?_
  walk_at "ds"
  have okp := parts_ok hw (by omega) (by omega)
  refine ne_same (x := .tup [.tup [], toD w]) ?_ ?_
  · have := pr_sm hw (by omega) (by omega) (p := []) (q := ([], w)) (by rw [preW_eq]; exact List.mem_cons_self ..)
    exact okD_of this.1 (by have := this.2; exact Nat.le_trans this (by decide))
  walk_at "ds"
  refine ⟨_, ⟨w, rfl, by omega, by omega, rfl⟩, fun G4 g4 => ?_⟩
  walk_at "ds"
  refine lcF (preW [] w) (fun q => pthD q.1) (fun q => ixD q.1.length) ?_ (by omega) ?_ ?_
  · intro P hP
    walk_at "ds"
    exact hP _ _ (fun _ => trivial) (Grow.refl _)
  · intro q hq
    refine ⟨_, rfl, fun G1 K hK => ?_⟩
    rw [show pthD q.1 = D.tup (q.1.map ixD) from rfl]
    walk_at "ds"
    have := hK G1 (Grow.refl _)
    simpa [ixD] using this
  intro G5 g5
  walk_at "ds"
  show intsP G5 (.lst ((preW [] w).map fun q => ixD q.1.length)) _
  rw [show ((preW [] w).map fun q => ixD q.1.length) = ((preW [] w).map fun q => q.1.length).map ixD by rw [List.map_map]; rfl]
  refine intsN ⟨by simp [pre_len]; exact cW_pos w, fun m hm hall => ?_⟩
  have em : (1 : Int) + m = (dW w : Nat) := by
    obtain ⟨q, hq1, hq2⟩ := pre_deep (dW w) w [] (Nat.le_refl _)
    have h1 := hall (q.1.length : Nat) (List.mem_map.mpr ⟨_, List.mem_map.mpr ⟨q, hq1, rfl⟩, rfl⟩)
    obtain ⟨n, hn, rfl⟩ := List.mem_map.mp hm
    obtain ⟨q', hq', rfl⟩ := List.mem_map.mp hn
    have h2 := pre_plen hq'
    simp only [List.length_nil] at h2 hq2
    omega
  walk_at "ds"
  rw [em, show ixD (dW w) = D.int (dW w : Nat) from rfl]
  refine ne_same ok_int ?_
  walk_at "ds"
  have g05 := (((g1.trans g2).trans g3).trans g4).trans g5
  refine dForGo_of (I := fun rest ρ G' => ∃ rs x4 x5 x6 x9, rest = rs.map prD ∧ (∀ q ∈ rs, q ∈ preW [] w) ∧ ρ = [some (toD w), some (toD v), some (.tup ((preW [] w).map prD)), some (.lst ((preW [] w).map fun q => pthD q.1)), x4, x5, x6, none, none, x9] ∧ Grow G G') ?_ ?_ _ _ _
    ⟨preW [] w, _, _, _, _, rfl, fun q h => h, rfl, g05⟩
  · rintro ρ G6 ⟨rs, x4, x5, x6, x9, -, -, rfl, g6⟩
    refine ⟨trivial, ?_⟩
    walk_at "ds"
    exact hq _ g6
  · rintro z rest ρ G6 ⟨rs, x4, x5, x6, x9, e0, hm, rfl, g6⟩ K hK
    cases rs with
    | nil => cases e0
    | cons q rs =>
      injection e0 with e2 e3
      subst e2 e3
      obtain ⟨p, u⟩ := q
      have hm1 := hm (p, u) (List.mem_cons_self ..)
      obtain ⟨r, l, e1, e2, e3, e4⟩ := pre_along w [] (p, u) hm1
      have e1 : p = r := e1
      subst e1
      obtain ⟨L, u', rfl⟩ := along_snoc e2
      have : u' = u := by simpa using e3
      subst this
      have hpl := along_dep p w _ e2
      have gu : Gw u' 60 12 := hw.part hm1
      have oku := gu.okd (show 12 ≤ 30 by decide)
      have huc := gu.c
      have hud := gu.d
      have hvc := hv.c
      have hvd := hv.d
      have gW := putW_g hv p w _ hw e2
      obtain ⟨L', hL'⟩ := along_put v p w _ e2
      have hWc := gW.c
      have hWd := gW.d
      have okW' := gW.okd (show 12 + 4 ≤ 30 by decide)
      have psz := put_c v p w L u' e2
      have pdp := put_d v p w _ e2
      refine ⟨trivial, ?_⟩
      rw [show prD (p, u') = D.tup [pthD p, toD u'] from rfl]
      rw [show pthD p = D.tup (p.map ixD) from rfl]
      walk_at "ds"
      rw [List.length_map]
      refine ⟨_, ⟨w, p, L, u', rfl, by omega, by omega, e2, rfl⟩, fun G7 g7 => ?_⟩
      walk_at "ds"
      refine ne_same oku ?_
      walk_at "ds"
      refine ⟨_, .inl ⟨u', rfl, gu.ok, by omega, by omega, rfl⟩, fun G8 g8 => ?_⟩
      walk_at "ds"
      refine ⟨_, ⟨w, p, _, u', rfl, by omega, by omega, e2, gu.ok, by omega, by omega, rfl⟩, fun G9 g9 => ?_⟩
      rw [put_same p w L u' e2]
      walk_at "ds"
      refine ne_same okw ?_
      walk_at "ds"
      refine ⟨_, ⟨u', rfl, by omega, by omega, rfl⟩, fun G10 g10 => ?_⟩
      walk_at "ds"
      refine lcFt (preW [] w) prD (fun q => .tup [pthD (q.1.drop p.length), toD q.2]) (beg p) ?_ (by omega) ?_ ?_
      · intro P hP
        walk_at "ds"
        exact hP _ _ (fun _ => trivial) (Grow.refl _)
      · intro q hq
        refine ⟨_, rfl, fun G1 K hK => ?_, fun _ G1 K hK => ?_⟩
        · rw [show pthD q.1 = D.tup (q.1.map ixD) from rfl]
          walk_at "ds"
          rw [cut_take, ← List.map_take]
          refine eq_tt (ok_pth _) (ok_pth p) ?_
          rw [show eqvD (.tup ((q.1.take p.length).map ixD)) (.tup (p.map ixD)) = beg p q from eqv_pthD _ p]
          exact hK _ (Grow.refl _)
        · rw [show pthD q.1 = D.tup (q.1.map ixD) from rfl]
          walk_at "ds"
          rw [cut_drop, ← List.map_drop]
          exact hK _ (Grow.refl _)
      intro G11 g11
      walk_at "ds"
      rw [show (((preW [] w).filter (beg p)).map fun q => D.tup [pthD (q.1.drop p.length), toD q.2]) = (preW [] u').map prD from by rw [← pre_parts e2, List.map_map]; rfl]
      refine ne_same (parts_ok gu (by omega) (by omega)) ?_
      walk_at "ds"
      refine ⟨_, ⟨w, p, _, v, rfl, by omega, by omega, e2, hv.ok, by omega, by omega, rfl⟩, fun G12 g12 => ?_⟩
      walk_at "ds"
      refine ⟨_, ⟨putW v w p, p, L', v, rfl, by omega, by omega, hL', rfl⟩, fun G13 g13 => ?_⟩
      walk_at "ds"
      refine ne_same okv ?_
      walk_at "ds"
      refine ⟨_, ⟨putW v w p, p, _, u', rfl, by omega, by omega, hL', gu.ok, by omega, by omega, rfl⟩, fun G14 g14 => ?_⟩
      rw [put_put v u' p w _ e2, put_same p w L u' e2]
      walk_at "ds"
      refine ne_same okw ?_
      walk_at "ds"
      refine ⟨_, ⟨putW v w p, rfl, by omega, by omega, rfl⟩, fun G15 g15 => ?_⟩
      walk_at "ds"
      refine ⟨_, ⟨w, rfl, by omega, by omega, rfl⟩, fun G16 g16 => ?_⟩
      walk_at "ds"
      refine ⟨_, ⟨u', rfl, by omega, by omega, rfl⟩, fun G17 g17 => ?_⟩
      rw [show ixD (cW w) = D.int (cW w : Nat) from rfl, show ixD (cW u') = D.int (cW u' : Nat) from rfl]
      walk_at "ds"
      refine ⟨_, ⟨v, rfl, by omega, by omega, rfl⟩, fun G18 g18 => ?_⟩
      rw [show ixD (cW v) = D.int (cW v : Nat) from rfl]
      walk_at "ds"
      rw [show ((cW w : Nat) : Int) - (cW u' : Nat) + (cW v : Nat) = (cW (putW v w p) : Nat) from by omega, show ixD (cW (putW v w p)) = D.int (cW (putW v w p) : Nat) from rfl]
      refine ne_same ok_int ?_
      walk_at "ds"
      refine ⟨_, ⟨putW v w p, rfl, by omega, by omega, rfl⟩, fun G19 g19 => ?_⟩
      rw [show ixD (dW (putW v w p)) = D.int (dW (putW v w p) : Nat) from rfl]
      walk_at "ds"
      refine ⟨_, ⟨v, rfl, by omega, by omega, rfl⟩, fun G20 g20 => ?_⟩
      rw [show ixD (dW v) = D.int (dW v : Nat) from rfl]
      walk_at "ds"
      refine ⟨_, .inl ⟨putW v w p, rfl, gW.ok, by omega, by omega, rfl⟩, fun G21 g21 => ?_⟩
      walk_at "ds"
      have ga := (((((g6.trans g7).trans g8).trans g9).trans g10).trans g11).trans g12
      have gb := ((((((((ga.trans g13).trans g14).trans g15).trans g16).trans g17).trans g18).trans g19).trans g20).trans g21
      exact hK _ _ ⟨rs, _, _, _, _, rfl, fun q h => hm q (List.mem_cons_of_mem _ h), rfl, gb⟩
end K12

namespace K12
open PySem L2 Dl K03 K04
local macro_rules | `(tactic| walk_at "ds") => `(tactic| repeat' with_reducible first
  | fail "stuck")
def upW (f : Wk → Wk) : Wk → Pth → Wk
  | w, [] => f w
  | w, k :: p => match (innW w)[k]? with
    | some u => setW w k (upW f u p)
    | none => w
structure Lf (f : Wk → Wk) : Prop where
  inn : ∀ w, innW (f w) = innW w
  cnt : ∀ w, cntd (f w) = cntd w
  set : ∀ w k x, f (setW w k x) = setW (f w) k x
  c : ∀ w, cW (f w) = cW w
  d : ∀ w, dW (f w) = dW w
theorem lf_tld (t : Bool) : Lf (tldW t) := ⟨fun w => by cases w <;> rfl, fun w => by cases w <;> rfl, fun w k x => by cases w <;> first | rfl | (rename_i a b; cases k <;> rfl), fun w => by cases w <;> rfl, fun w => by cases w <;> rfl⟩
theorem lf_bnd (i j : Int) : Lf (bndW i j) := ⟨fun w => by cases w <;> rfl, fun w => by cases w <;> rfl, fun w k x => by cases w <;> first | rfl | (rename_i a b; cases k <;> rfl), fun w => by cases w <;> rfl, fun w => by cases w <;> rfl⟩
theorem up_tel (t : Bool) : ∀ (p : Pth) (w : Wk), telW t w p = upW (tldW t) w p
  | [], w => rfl
  | k :: p, w => by
    rw [telW, upW]
    cases (innW w)[k]? with
    | none => rfl
    | some u => dsimp only; rw [up_tel t p u]
theorem up_put (f : Wk → Wk) : ∀ (p : Pth) (w : Wk) (L : List Wk) (u : Wk), alongW w p = some (L ++ [u]) → putW (f u) w p = upW f w p
  | [], w, L, u, h => by
    rw [alongW] at h
    cases L with
    | nil => simp at h; subst h; rfl
    | cons a L => simp at h
  | k :: p, w, L, u, h => by
    obtain ⟨v, L', hv, e', -⟩ := snoc_cons h
    rw [putW, upW, hv]
    dsimp only
    rw [up_put f p v L' u e']
theorem set_none {w : Wk} {k i : Nat} (x : Wk) (h : (innW w)[i]? = none) : (innW (setW w k x))[i]? = none := by
  cases e : (innW w)[k]? with
  | none =>
    have hk := List.getElem?_eq_none_iff.mp e
    cases w with
    | tick n => exact h
    | sme a b t => exact h
    | lop a b t v => simp only [innW, setW, List.length_cons, List.length_nil] at h hk ⊢; rw [List.getElem?_eq_none_iff] at h ⊢; exact h
    | eit ws => simp only [innW, setW] at h ⊢; rw [List.getElem?_eq_none_iff] at h ⊢; rw [List.length_set]; exact h
    | row ws => simp only [innW, setW] at h ⊢; rw [List.getElem?_eq_none_iff] at h ⊢; rw [List.length_set]; exact h
    | bes a b => cases k <;> (simp only [innW, setW] at h ⊢; rw [List.getElem?_eq_none_iff] at h ⊢; exact h)
  | some u =>
    rw [inn_set x e, List.getElem?_eq_none_iff, List.length_set]
    exact List.getElem?_eq_none_iff.mp h
theorem set_comm {w : Wk} {i j : Nat} (x y : Wk) (hi : i < (innW w).length) (hj : j < (innW w).length) (h : i ≠ j) : setW (setW w i x) j y = setW (setW w j y) i x := by
  cases w with
  | tick n => simp [innW] at hi
  | sme a b t => simp [innW] at hi
  | lop a b t v => simp [innW] at hi hj; omega
  | eit ws => simp only [setW]; rw [List.set_comm _ _ h]
  | row ws => simp only [setW]; rw [List.set_comm _ _ h]
  | bes a b =>
    simp [innW] at hi hj
    obtain ⟨rfl, rfl⟩ | ⟨rfl, rfl⟩ : (i = 0 ∧ j = 1) ∨ (i = 1 ∧ j = 0) := by omega
    · rfl
    · rfl
theorem up_cons {f : Wk → Wk} {w u : Wk} {k : Nat} {p : Pth} (h : (innW w)[k]? = some u) : upW f w (k :: p) = setW w k (upW f u p) := by rw [upW, h]
theorem up_none {f : Wk → Wk} {w : Wk} {k : Nat} {p : Pth} (h : (innW w)[k]? = none) : upW f w (k :: p) = w := by rw [upW, h]
theorem up_comm {f g : Wk → Wk} (hf : Lf f) (hg : Lf g) : ∀ (p q : Pth) (w : Wk), (p = q → ∀ w, g (f w) = f (g w)) → upW g (upW f w p) q = upW f (upW g w q) p
  | [], [], w, h => h rfl w
  | [], j :: q, w, _ => by
    cases e : (innW w)[j]? with
    | none =>
      rw [up_none e]
      show upW g (f w) (j :: q) = f w
      exact up_none (by rw [hf.inn]; exact e)
    | some v =>
      rw [up_cons e]
      show upW g (f w) (j :: q) = f (setW w j (upW g v q))
      rw [hf.set]
      exact up_cons (by rw [hf.inn]; exact e)
  | i :: p, [], w, _ => by
    cases e : (innW w)[i]? with
    | none =>
      rw [up_none e]
      show g w = upW f (g w) (i :: p)
      exact (up_none (by rw [hg.inn]; exact e)).symm
    | some v =>
      rw [up_cons e]
      show g (setW w i (upW f v p)) = upW f (g w) (i :: p)
      rw [hg.set]
      exact (up_cons (by rw [hg.inn]; exact e)).symm
  | i :: p, j :: q, w, h => by
    cases e : (innW w)[i]? with
    | none =>
      rw [up_none e]
      cases e2 : (innW w)[j]? with
      | none => rw [up_none e2, up_none e]
      | some v => rw [up_cons e2, up_none (set_none _ e)]
    | some u =>
      cases e2 : (innW w)[j]? with
      | none => rw [up_cons e, up_none e2, up_none (set_none _ e2), up_cons e]
      | some v =>
        by_cases hij : i = j
        · subst hij
          obtain rfl : u = v := by rw [e] at e2; injection e2
          rw [up_cons e, up_cons e, up_cons (inn_at_set _ e), up_cons (inn_at_set _ e), set_set, set_set]
          rw [up_comm hf hg p q u fun hpq => h (by rw [hpq])]
        · have hi := (List.getElem?_eq_some_iff.mp e).1
          have hj := (List.getElem?_eq_some_iff.mp e2).1
          have e3 : (innW (setW w i (upW f u p)))[j]? = some v := by rw [inn_set _ e, List.getElem?_set_ne hij]; exact e2
          have e4 : (innW (setW w j (upW g v q)))[i]? = some u := by rw [inn_set _ e2, List.getElem?_set_ne fun h => hij h.symm]; exact e
          rw [up_cons e, up_cons e2, up_cons e3, up_cons e4]
          exact set_comm _ _ hi hj hij
theorem up_up {f g : Wk → Wk} : ∀ (p : Pth) (w : Wk), upW g (upW f w p) p = upW (fun u => g (f u)) w p
  | [], w => rfl
  | k :: p, w => by
    cases e : (innW w)[k]? with
    | none => rw [up_none e, up_none e, up_none e]
    | some u => rw [up_cons e, up_cons e, up_cons (inn_at_set _ e), set_set, up_up p u]
theorem up_congr {f g : Wk → Wk} (h : ∀ w, f w = g w) (w : Wk) (p : Pth) : upW f w p = upW g w p := by rw [show f = g from funext h]
theorem up_along (f : Wk → Wk) : ∀ (p : Pth) (w : Wk) (L : List Wk) (u : Wk), alongW w p = some (L ++ [u]) → ∃ L', alongW (upW f w p) p = some (L' ++ [f u]) := fun p w L u h => by
  rw [← up_put f p w L u h]; exact along_put (f u) p w _ h
theorem cnt_up {f : Wk → Wk} (hf : Lf f) : ∀ (p : Pth) (w : Wk) (q : Pth), cntA (upW f w p) q = cntA w q
  | [], w, [] => by simp [upW, cntA, prtW, hf.cnt]
  | [], w, j :: r => by simp only [upW, cntA, prtW, hf.inn]
  | k :: p, w, q => by
    cases e : (innW w)[k]? with
    | none => rw [up_none e]
    | some u =>
      rw [up_cons e]
      cases q with
      | nil => simp [cntA, prtW, cnt_set]
      | cons j r =>
        have ih := cnt_up hf p u r
        have hk := (List.getElem?_eq_some_iff.mp e).1
        simp only [cntA, prtW, inn_set _ e] at ih ⊢
        by_cases hj : k = j
        · subst hj
          rw [List.getElem?_set_self hk, e]
          exact ih
        · rw [List.getElem?_set_ne hj]
theorem up_sz {f : Wk → Wk} (hf : Lf f) {B : Int} (ho : ∀ w, okW B w → okW B (f w)) : ∀ (p : Pth) (w : Wk), okW B w → cW (upW f w p) = cW w ∧ dW (upW f w p) ≤ dW w ∧ okW B (upW f w p)
  | [], w, h => ⟨hf.c w, by show dW (f w) ≤ _; rw [hf.d]; exact Nat.le_refl _, ho w h⟩
  | k :: p, w, h => by
    cases e : (innW w)[k]? with
    | none => rw [up_none e]; exact ⟨rfl, Nat.le_refl _, h⟩
    | some u =>
      rw [up_cons e]
      have hu := List.mem_of_getElem? e
      obtain ⟨h1, h2, h3⟩ := up_sz hf ho p u (inn_ok h hu)
      refine ⟨?_, ?_, setW_ok h e h3⟩
      · have := setW_c (x := upW f u p) e; omega
      · have := setW_d w (upW f u p) k; have := inn_d hu; omega
theorem up_gw {f : Wk → Wk} (hf : Lf f) (ho : ∀ w, okW 999 w → okW 999 (f w)) {w : Wk} {n d : Nat} (h : Gw w n d) (p : Pth) : Gw (upW f w p) n d := by
  obtain ⟨h1, h2, h3⟩ := up_sz hf ho p w h.ok
  exact ⟨h3, by have := h.c; omega, by have := h.d; omega⟩
theorem bnd_ok {i j : Int} (h0 : 0 ≤ i) (hij : i ≤ j) (hj : j ≤ 999) (w : Wk) (h : okW 999 w) : okW 999 (bndW i j w) := by
  cases w with
  | sme a b t => rw [bndW, okW]; exact ⟨h0, hij, hj⟩
  | lop a b t v => rw [okW] at h; rw [bndW, okW]; exact ⟨h0, hij, hj, h.2.2.2⟩
  | _ => exact h
theorem pws_set (p : Pth) {x v : Wk} (hc : ∀ b, ((preW b x).filter fun q => cntd q.2).map (·.1) = ((preW b v).filter fun q => cntd q.2).map (·.1)) : ∀ (ws : List Wk) (k j : Nat), ws[j]? = some v →
    ((preWs p k (ws.set j x)).filter fun q => cntd q.2).map (·.1) = ((preWs p k ws).filter fun q => cntd q.2).map (·.1)
  | [], k, j, h => by simp at h
  | w :: ws, k, 0, h => by
    simp at h; subst h
    rw [List.set_cons_zero, preWs, preWs, List.filter_append, List.filter_append, List.map_append, List.map_append, hc]
  | w :: ws, k, j + 1, h => by
    rw [List.set_cons_succ, preWs, preWs, List.filter_append, List.filter_append, List.map_append, List.map_append, pws_set p hc ws (k + 1) j (by simpa using h)]
theorem lp_one {w w' : Wk} (b : Pth) (h1 : cntd w = cntd w') (h2 : ((preWs b 0 (innW w)).filter fun q => cntd q.2).map (·.1) = ((preWs b 0 (innW w')).filter fun q => cntd q.2).map (·.1)) :
    ((preW b w).filter fun q => cntd q.2).map (·.1) = ((preW b w').filter fun q => cntd q.2).map (·.1) := by
  rw [preW_eq, preW_eq b w', List.filter_cons, List.filter_cons]
  dsimp only
  rw [h1]
  cases cntd w'
  · simpa using h2
  · simpa using h2
theorem lp_up {f : Wk → Wk} (hf : Lf f) : ∀ (p : Pth) (w : Wk) (b : Pth), ((preW b (upW f w p)).filter fun q => cntd q.2).map (·.1) = ((preW b w).filter fun q => cntd q.2).map (·.1)
  | [], w, b => lp_one b (hf.cnt w) (by rw [upW, hf.inn])
  | k :: p, w, b => by
    cases e : (innW w)[k]? with
    | none => rw [up_none e]
    | some u =>
      rw [up_cons e]
      refine lp_one b (cnt_set ..) ?_
      rw [inn_set _ e]
      exact pws_set b (fun b => lp_up hf p u b) _ 0 k e
theorem lps_tel (t : Bool) (w : Wk) (p : Pth) : (lpsW (telW t w p)).map (·.1) = (lpsW w).map (·.1) := by rw [up_tel]; exact lp_up (lf_tld t) p w []
theorem eqvs_at : ∀ (xs ys : List D) (k : Nat) (x y : D), eqvDs xs ys = true → xs[k]? = some x → ys[k]? = some y → eqvD x y = true
  | [], ys, k, x, y, h, hx, hy => by simp at hx
  | a :: xs, [], k, x, y, h, hx, hy => by simp at hy
  | a :: xs, b :: ys, 0, x, y, h, hx, hy => by
    simp only [eqvDs, Bool.and_eq_true] at h
    simp at hx hy; subst hx hy; exact h.1
  | a :: xs, b :: ys, k + 1, x, y, h, hx, hy => by
    simp only [eqvDs, Bool.and_eq_true] at h
    exact eqvs_at xs ys k x y h.2 (by simpa using hx) (by simpa using hy)
theorem eqv_set {w u x y : Wk} {k : Nat} (hk : (innW w)[k]? = some u) (h : eqvD (toD (setW w k x)) (toD (setW w k y)) = true) : eqvD (toD x) (toD y) = true := by
  have hl := (List.getElem?_eq_some_iff.mp hk).1
  cases w with
  | tick n => simp [innW] at hk
  | sme a b t => simp [innW] at hk
  | lop a b t v =>
    simp only [setW, toD, eqvD, eqvDs, Bool.and_eq_true] at h
    exact h.2.2.2.2.1
  | eit ws =>
    simp only [setW, toD, eqvD, eqvDs, Bool.and_eq_true] at h
    simp only [innW] at hl
    exact eqvs_at _ _ k _ _ h.2.1 (by rw [toDs_map, List.getElem?_map, List.getElem?_set_self hl]; rfl) (by rw [toDs_map, List.getElem?_map, List.getElem?_set_self hl]; rfl)
  | row ws =>
    simp only [setW, toD, eqvD, eqvDs, Bool.and_eq_true] at h
    simp only [innW] at hl
    exact eqvs_at _ _ k _ _ h.2.1 (by rw [toDs_map, List.getElem?_map, List.getElem?_set_self hl]; rfl) (by rw [toDs_map, List.getElem?_map, List.getElem?_set_self hl]; rfl)
  | bes a b =>
    simp [innW] at hl
    obtain rfl | rfl : k = 0 ∨ k = 1 := by omega
    · simp only [setW, toD, eqvD, eqvDs, Bool.and_eq_true] at h
      exact h.2.1
    · simp only [setW, toD, eqvD, eqvDs, Bool.and_eq_true] at h
      exact h.2.2.1
theorem tel_ne : ∀ (p : Pth) (w : Wk) (L : List Wk) (u : Wk), alongW w p = some (L ++ [u]) → cntd u = true → eqvD (toD (telW true w p)) (toD (telW false w p)) = false
  | [], w, L, u, h, hu => by
    rw [alongW] at h
    cases L with
    | cons a L => simp at h
    | nil =>
      simp at h; subst h
      cases w with
      | sme a b t => simp [telW, tldW, toD, eqvD, eqvDs]
      | lop a b t v => simp [telW, tldW, toD, eqvD, eqvDs]
      | _ => cases hu
  | k :: p, w, L, u, h, hu => by
    obtain ⟨v, L', hv, e', -⟩ := snoc_cons h
    have ih := tel_ne p v L' u e' hu
    rw [telW, telW, hv]
    dsimp only
    cases e : eqvD (toD (setW w k (telW true v p))) (toD (setW w k (telW false v p))) with
    | false => rfl
    | true => rw [eqv_set hv e] at ih; cases ih
theorem tel_own : ∀ (p : Pth) (w : Wk) (L : List Wk) (u : Wk), alongW w p = some (L ++ [u]) → ∃ t, telW t w p = w := fun p w L u h => by
  have : ∃ t, tldW t u = u := by
    cases u with
    | sme a b t => exact ⟨t, rfl⟩
    | lop a b t v => exact ⟨t, rfl⟩
    | tick n => exact ⟨true, rfl⟩
    | eit ws => exact ⟨true, rfl⟩
    | row ws => exact ⟨true, rfl⟩
    | bes a b => exact ⟨true, rfl⟩
  obtain ⟨t, ht⟩ := this
  refine ⟨t, ?_⟩
  rw [← tel_put t p w L u h, ht, put_same p w L u h]
theorem tld_tld (s t : Bool) (w : Wk) : tldW s (tldW t w) = tldW s w := by cases w <;> rfl
theorem tld_bnd (t : Bool) (i j : Int) (w : Wk) : tldW t (bndW i j w) = bndW i j (tldW t w) := by cases w <;> rfl
theorem tel_tel (s t : Bool) (w : Wk) (p : Pth) : telW s (telW t w p) p = telW s w p := by
  rw [up_tel s, up_tel t, up_tel s, up_up]
  exact up_congr (tld_tld s t) w p
theorem tel_comm (t : Bool) (w : Wk) (p q : Pth) : telW t (telW t w p) q = telW t (telW t w q) p := by
  rw [up_tel t q, up_tel t p, up_tel t p, up_tel t q]
  exact up_comm (lf_tld t) (lf_tld t) p q w fun _ w => rfl
theorem tell_comm (t : Bool) : ∀ (ps : List Pth) (w : Wk) (p : Pth), telW t (tellW t w ps) p = tellW t (telW t w p) ps
  | [], w, p => rfl
  | q :: ps, w, p => by
    show telW t (tellW t (telW t w q) ps) p = tellW t (telW t (telW t w p) q) ps
    rw [tell_comm t ps, tel_comm]
theorem tell_mem (t : Bool) : ∀ (ps : List Pth) (w : Wk) (p : Pth), p ∈ ps → telW t (tellW t w ps) p = tellW t w ps
  | [], w, p, h => by cases h
  | q :: ps, w, p, h => by
    by_cases e : p = q
    · subst e
      show telW t (tellW t (telW t w p) ps) p = tellW t (telW t w p) ps
      rw [tell_comm, tel_tel]
    · show telW t (tellW t (telW t w q) ps) p = tellW t (telW t w q) ps
      exact tell_mem t ps _ p (by cases h with | head => exact (e rfl).elim | tail _ h => exact h)
theorem tell_all (t : Bool) (w : Wk) (ps : List Pth) : ∀ qs : List Pth, (∀ q ∈ qs, q ∈ ps) → tellW t (tellW t w ps) qs = tellW t w ps
  | [], _ => rfl
  | q :: qs, h => by
    show tellW t (telW t (tellW t w ps) q) qs = _
    rw [tell_mem t ps w q (h q (List.mem_cons_self ..))]
    exact tell_all t w ps qs fun x hx => h x (List.mem_cons_of_mem _ hx)
end K12

namespace K12
open PySem L2 Dl K03 K04
local macro_rules | `(tactic| walk_at "ds") => `(tactic| repeat' with_reducible first
  | refine iVar (by with_unfolding_all rfl) ?_
  | refine iCons ?_
  | refine iNil ?_
  | refine iC ?_
  | refine iOp ?_
  | refine iSeq ?_
  | refine iAsg ?_
  | refine iGNm ?_
  | refine iTup ?_
  | refine iFrz ?_
  | refine iTst ?_
  | refine iIfS ?_
  | refine iRet ?_
  | refine iCall ?_
  | refine iLst ?_
  | refine iNext ?_
  | refine iRev ?_
  | refine revT ?_
  | refine iPar ?_
  | refine iGTp (by with_unfolding_all rfl) ?_
  | refine iGsCons ?_
  | refine iGsNil ?_
  | refine lenOk (by with_unfolding_all rfl) ?_
  | refine frzEnd ?_
  | refine lstC_t ?_
  | refine iTru ?_
  | refine truB ?_
  | refine iAnd ?_
  | refine iOr ?_
  | refine iNot ?_
  | refine iAndVK ?_
  | refine andVT ?_
  | refine ifF ?_
  | refine iCB ?_
  | refine iFor ?_
  | refine iISq ?_
  | refine int0 ?_
  | refine ifNT ?_
  | refine ifNF ?_
  | refine ifNDT (by with_reducible_and_instances first | omega | (simp only [List.length_cons, List.length_nil]; omega)) ?_
  | fail "stuck")
theorem inT_cnt {f : Bool → Bool} {u : Wk} {G : GH} {Q : DK} (h : Q (.bl (f (cntd u))) G) : rInT f (.str (wordW u)) (.tup [.str "some", .str "loop"]) G Q := by
  show okD _ ∧ okD _ ∧ Q (.bl (f (inD (.str (wordW u)) [.str "some", .str "loop"]))) G
  rw [in_cnt]
  have e : ∀ u : Wk, PyData.strOk (wordW u : Str) = true := fun u => by cases u <;> (simp only [wordW]; decide +kernel)
  exact ⟨⟨by rw [pureD]; exact e u, by simp [depD]⟩, ⟨by simp only [pureD, pureDs, Bool.and_eq_true]; exact ⟨by decide +kernel, by decide +kernel, trivial⟩, by simp [depD, depDs]⟩, h⟩
theorem inT_own {f : Bool → Bool} {w a b : Wk} {n d : Nat} (hw : Gw w n d) (ha : Gw a n d) (hb : Gw b n d) (hd : d ≤ 25) (e : a = w ∨ b = w) {G : GH} {Q : DK} (h : Q (.bl (f true)) G) : rInT f (toD w) (.tup [toD a, toD b]) G Q := by
  have okw := hw.okd (show d ≤ 30 by omega)
  have hp : okD (.tup [toD a, toD b]) := okD_of (by simp [smD, smDs, ha.sm, hb.sm]) (by have := ha.dp; have := hb.dp; simp only [depD, depDs]; omega)
  refine ⟨okw, hp, ?_⟩
  have : inD (toD w) [toD a, toD b] = true := by
    rw [inD, List.any_cons, List.any_cons]
    rcases e with e | e
    · rw [e, eqvD_refl _ okw.1]; rfl
    · rw [e, eqvD_refl _ okw.1]; simp
  rw [this]; exact h
theorem at_up {f : Wk → Wk} (hf : Lf f) {w u : Wk} {p : Pth} (h : AtP w p u) : AtP (upW f w p) p (f u) := by
  obtain ⟨L, hL⟩ := h.al
  exact ⟨up_along f p w L u hL, by rw [hf.cnt]; exact h.cn, by rw [cnt_up hf]; exact h.ca⟩
theorem at_put {f : Wk → Wk} {w u : Wk} {p : Pth} (h : AtP w p u) : putW (f u) w p = upW f w p := by
  obtain ⟨L, hL⟩ := h.al
  exact up_put f p w L u hL
theorem bnd_back {u : Wk} (hu : cntd u = true) (i j : Int) : bndW (lowB u) (topB u) (bndW i j u) = u := by
  cases u with
  | sme a b t => rfl
  | lop a b t v => rfl
  | _ => cases hu
theorem ok_pair {a b : Int} : okD (.tup [.int a, .int b]) := ⟨rfl, by simp [depD, depDs]⟩
theorem low_tld (t : Bool) (u : Wk) : lowB (tldW t u) = lowB u ∧ topB (tldW t u) = topB u := by cases u <;> exact ⟨rfl, rfl⟩
theorem low_bnd {u : Wk} (hu : cntd u = true) (i j : Int) : lowB (bndW i j u) = i ∧ topB (bndW i j u) = j := by
  cases u with
  | sme a b t => exact ⟨rfl, rfl⟩
  | lop a b t v => exact ⟨rfl, rfl⟩
  | _ => cases hu
abbrev psW (w : Wk) : List Pth := (lpsW w).map (·.1)
theorem psW_D (w : Wk) : ((lpsW w).map fun q => pthD q.1) = (psW w).map pthD := by rw [List.map_map]; rfl
theorem psW_ok (w : Wk) : okD (.tup ((psW w).map pthD)) := by rw [← psW_D]; exact ok_pathsT
theorem psW_okl (w : Wk) : okD (.lst ((psW w).map pthD)) := by rw [← psW_D]; exact ok_pths
theorem psW_cnt {w : Wk} {p : Pth} (h : p ∈ psW w) : cntA w p = true := by
  obtain ⟨q, hq, rfl⟩ := List.mem_map.mp h
  exact (lps_cnt hq).1
def RLR : List D → D → Prop := fun ds d => ∃ w, ds = [toD w] ∧ Gw w 60 12 ∧ d = .bl true
theorem law_loops_right_rd : ∀ ds G Q E, pSp RLR ds G Q E → r_law_loops_right (pSp (RTf true)) (pSp RTc) (pSp RBs) (pSp Rsz) (pSp RBo) (pSp Rlo) (pSp (RTf false)) (pSp (RIi isNumB)) (pSp Rps) { nx := fun _ G' => Q .non G', rt := Q } (startD 12 ds) G := by
  rintro ds G Q E ⟨_, ⟨w, rfl, hw, rfl⟩, hq⟩
  unfold r_law_loops_right
  have hz : (2000 : Nat) ≤ sizeLine := by decide
  have hc := hw.c
  have hd := hw.d
  have hlen : (preW [] w).length ≤ 60 := by rw [pre_len]; exact hc
  have hlp : (psW w).length ≤ 60 := by rw [List.length_map]; exact Nat.le_trans (List.length_filter_le _ _) hlen
  have okw := hw.okd (show 12 ≤ 30 by decide)
  walk_at "ds"
  refine ⟨_, ⟨w, rfl, by omega, by omega, rfl⟩, fun G1 g1 => ?_⟩
  rw [psW_D]
  walk_at "ds"
  refine lcFt (preW [] w) prD (fun q => pthD q.1) (fun q => cntd q.2) ?_ (by omega) ?_ ?_
  · intro P hP
    walk_at "ds"
    refine ⟨_, ⟨w, rfl, by omega, by omega, rfl⟩, fun G2 g2 => ?_⟩
    dsimp only
    exact hP _ _ (fun _ => trivial) g2
  · intro q hq
    refine ⟨_, rfl, fun G1 K hK => ?_, fun _ G1 K hK => ?_⟩
    · walk_at "ds"
      refine ix0 ?_
      walk_at "ds"
      refine inT_cnt ?_
      exact hK _ (Grow.refl _)
    · walk_at "ds"
      exact hK _ (Grow.refl _)
  intro G2 g2
  rw [show (((preW [] w).filter fun q => cntd q.2).map fun q => pthD q.1) = (psW w).map pthD from psW_D w]
  refine ne_same (psW_okl w) ?_
  walk_at "ds"
  refine dForGo_of (I := fun rest ρ G' => ∃ rs x2 x4 x5 x6 x7 x8 x9 x10, rest = rs.map pthD ∧ (∀ q ∈ rs, q ∈ psW w) ∧ ρ = [some (toD w), some (.tup ((psW w).map pthD)), x2, none, x4, x5, x6, x7, x8, x9, x10, none] ∧ Grow G G') ?_ ?_ _ _ _
    ⟨psW w, _, _, _, _, _, _, _, _, rfl, fun q h => h, rfl, g1.trans g2⟩
  · rintro ρ G3 ⟨rs, x2, x4, x5, x6, x7, x8, x9, x10, -, -, rfl, g3⟩
    refine ⟨trivial, ?_⟩
    walk_at "ds"
    refine ⟨_, ⟨w, psW w, rfl, by omega, by omega, fun p hp => psW_cnt hp, by omega, rfl⟩, fun G4 g4 => ?_⟩
    obtain ⟨s1, s2, -⟩ := tell_sz true (psW w) w
    have gl : Gw (tellW true w (psW w)) 60 12 := tell_gw hw
    have okl := gl.okd (show 12 ≤ 30 by decide)
    walk_at "ds"
    refine ⟨_, ⟨tellW true w (psW w), (psW w).reverse, by rw [List.map_reverse], by omega, by omega, fun p hp => by rw [tell_cnt]; exact psW_cnt (List.mem_reverse.mp hp), by rw [List.length_reverse]; omega, rfl⟩, fun G5 g5 => ?_⟩
    rw [tell_all true w (psW w) _ fun q hq => List.mem_reverse.mp hq]
    walk_at "ds"
    refine eq_same okl ?_
    walk_at "ds"
    refine lcFt (psW w) pthD pthD (fun q => false) ?_ (by omega) ?_ ?_
    · intro P hP
      walk_at "ds"
      exact hP _ _ (fun _ => trivial) (Grow.refl _)
    · intro q hq
      refine ⟨_, rfl, fun G1 K hK => ?_, fun h => nomatch h⟩
      walk_at "ds"
      refine ⟨_, ⟨tellW true w (psW w), q, rfl, by omega, by omega, by rw [tell_cnt]; exact psW_cnt hq, rfl⟩, fun G2 g2 => ?_⟩
      rw [tell_mem true _ w q hq]
      walk_at "ds"
      refine ne_same okl ?_
      exact hK _ g2
    intro G6 g6
    walk_at "ds"
    rw [show ((psW w).filter fun q => false) = [] from List.filter_eq_nil_iff.mpr fun _ _ h => nomatch h]
    refine eq_same (x := .lst []) ⟨rfl, by decide⟩ ?_
    exact hq _ (((g3.trans g4).trans g5).trans g6)
  · rintro z rest ρ G3 ⟨rs, x2, x4, x5, x6, x7, x8, x9, x10, e0, hm, rfl, g3⟩ K hK
    cases rs with
    | nil => cases e0
    | cons p rs =>
      injection e0 with e2 e3
      subst e2 e3
      have hp := psW_cnt (hm p (List.mem_cons_self ..))
      obtain ⟨u, hA⟩ := cnt_at hp
      obtain ⟨L, hL⟩ := hA.al
      have hu := hA.cn
      have gu := hA.part hw
      obtain ⟨b0, b1, b2⟩ := bounds_small gu hu
      have gF : Gw (telW true w p) 60 12 := tel_gw hw
      have gL : Gw (telW false w p) 60 12 := tel_gw hw
      have okF := gF.okd (show 12 ≤ 30 by decide)
      have okL := gL.okd (show 12 ≤ 30 by decide)
      have hFc := gF.c
      have hFd := gF.d
      have hLc := gL.c
      have hLd := gL.d
      have gB : Gw (upW (bndW 2 40) w p) 60 12 := up_gw (lf_bnd 2 40) (bnd_ok (by decide) (by decide) (by decide)) hw p
      have hBc := gB.c
      have hBd := gB.d
      have okB := gB.okd (show 12 ≤ 30 by decide)
      refine ⟨trivial, ?_⟩
      walk_at "ds"
      refine ⟨_, ⟨w, p, u, rfl, by omega, by omega, hA, rfl⟩, fun G4 g4 => ?_⟩
      walk_at "ds"
      refine ⟨_, ⟨w, p, rfl, by omega, by omega, hp, rfl⟩, fun G5 g5 => ?_⟩
      walk_at "ds"
      refine ⟨_, ⟨w, p, rfl, by omega, by omega, hp, rfl⟩, fun G6 g6 => ?_⟩
      walk_at "ds"
      refine ⟨_, ⟨.int (lowB u), rfl, rfl, rfl⟩, fun G7 g7 => ?_⟩
      rw [show isNumB (.int (lowB u)) = true from decide_eq_true b0]
      walk_at "ds"
      refine inT_own hw gF gL (by decide) (by obtain ⟨t, ht⟩ := tel_own p w L u hL; cases t; exact .inr ht; exact .inl ht) ?_
      walk_at "ds"
      refine cmp_i okF okL ?_
      rw [tel_ne p w L u hL hu]
      walk_at "ds"
      refine ⟨_, ⟨telW true w p, p, rfl, by omega, by omega, by rw [cnt_tel]; exact hp, rfl⟩, fun G8 g8 => ?_⟩
      rw [tel_tel]
      walk_at "ds"
      refine ne_same okL ?_
      walk_at "ds"
      refine ⟨_, ⟨telW false w p, p, rfl, by omega, by omega, by rw [cnt_tel]; exact hp, rfl⟩, fun G9 g9 => ?_⟩
      rw [tel_tel]
      walk_at "ds"
      refine ne_same okF ?_
      walk_at "ds"
      refine ⟨_, ⟨telW true w p, p, rfl, by omega, by omega, by rw [cnt_tel]; exact hp, rfl⟩, fun G10 g10 => ?_⟩
      rw [tel_tel]
      walk_at "ds"
      refine ne_same okF ?_
      walk_at "ds"
      refine ⟨_, ⟨w, [p], rfl, by omega, by omega, fun q hq => by rw [List.mem_singleton.mp hq]; exact hp, by simp, rfl⟩, fun G11 g11 => ?_⟩
      rw [show tellW true w [p] = telW true w p from rfl]
      walk_at "ds"
      refine ne_same okF ?_
      walk_at "ds"
      have hAF : AtP (telW true w p) p (tldW true u) := by rw [up_tel]; exact at_up (lf_tld true) hA
      refine ⟨_, ⟨telW true w p, p, _, rfl, by omega, by omega, hAF, rfl⟩, fun G12 g12 => ?_⟩
      rw [(low_tld true u).1, (low_tld true u).2]
      walk_at "ds"
      refine ne_same ok_pair ?_
      walk_at "ds"
      refine ⟨_, ⟨telW false w p, rfl, by omega, by omega, rfl⟩, fun G13 g13 => ?_⟩
      rw [psW_D, show psW (telW false w p) = psW w from lps_tel false w p]
      walk_at "ds"
      refine ne_same (psW_ok w) ?_
      walk_at "ds"
      refine ⟨_, ⟨w, p, u, 2, 40, rfl, by omega, by omega, hA, by decide, by decide, rfl⟩, fun G14 g14 => ?_⟩
      rw [at_put hA]
      have hAB := at_up (lf_bnd 2 40) hA
      walk_at "ds"
      refine ⟨_, ⟨upW (bndW 2 40) w p, p, _, rfl, by omega, by omega, hAB, rfl⟩, fun G15 g15 => ?_⟩
      rw [(low_bnd hu 2 40).1, (low_bnd hu 2 40).2]
      walk_at "ds"
      refine ne_same ok_pair ?_
      walk_at "ds"
      refine ⟨_, ⟨upW (bndW 2 40) w p, p, _, lowB u, topB u, rfl, by omega, by omega, hAB, b0, b1, rfl⟩, fun G16 g16 => ?_⟩
      rw [bnd_back hu, ← at_put hA, put_put _ _ p w _ hL, put_same p w L u hL, at_put hA]
      walk_at "ds"
      refine ne_same okw ?_
      walk_at "ds"
      refine ⟨_, ⟨upW (bndW 2 40) w p, p, rfl, by omega, by omega, hAB.ca, rfl⟩, fun G17 g17 => ?_⟩
      walk_at "ds"
      refine ⟨_, ⟨telW true w p, p, _, 2, 40, rfl, by omega, by omega, hAF, by decide, by decide, rfl⟩, fun G18 g18 => ?_⟩
      rw [at_put hAF, up_tel true p w, up_tel true, up_comm (lf_tld true) (lf_bnd 2 40) p p w fun _ v => (tld_bnd true 2 40 v).symm, ← up_tel true p w]
      walk_at "ds"
      refine ne_same ((up_gw (lf_tld true) (fun v h => by cases v <;> exact h) gB p).okd (show 12 ≤ 30 by decide)) ?_
      walk_at "ds"
      refine ⟨_, ⟨upW (bndW 2 40) w p, rfl, by omega, by omega, rfl⟩, fun G19 g19 => ?_⟩
      walk_at "ds"
      refine ⟨_, ⟨w, rfl, by omega, by omega, rfl⟩, fun G20 g20 => ?_⟩
      rw [(up_sz (lf_bnd 2 40) (bnd_ok (by decide) (by decide) (by decide)) p w hw.ok).1]
      refine ne_same ok_int ?_
      walk_at "ds"
      have ga := (((((((g3.trans g4).trans g5).trans g6).trans g7).trans g8).trans g9).trans g10).trans g11
      have gb := ((((((((ga.trans g12).trans g13).trans g14).trans g15).trans g16).trans g17).trans g18).trans g19).trans g20
      refine dForGo_of (I := fun rest ρ G' => ∃ ts y9 y10, rest = ts.map pthD ∧ (∀ q ∈ ts, q ∈ psW w) ∧ ρ = [some (toD w), some (.tup ((psW w).map pthD)), some (pthD p), none, some (.int (lowB u)), some (.int (topB u)), some (toD (telW true w p)), some (toD (telW false w p)), some (toD (upW (bndW 2 40) w p)), y9, y10, none] ∧ Grow G G') ?_ ?_ _ _ _
        ⟨psW w, _, _, rfl, fun q h => h, rfl, gb⟩
      · rintro ρ G21 ⟨ts, y9, y10, -, -, rfl, g21⟩
        exact ⟨trivial, hK _ _ ⟨rs, _, _, _, _, _, _, _, _, rfl, fun q h => hm q (List.mem_cons_of_mem _ h), rfl, g21⟩⟩
      · rintro y rest ρ G21 ⟨ts, y9, y10, e0, hm2, rfl, g21⟩ K2 hK2
        cases ts with
        | nil => cases e0
        | cons q ts =>
          injection e0 with e2 e3
          subst e2 e3
          have hqc := psW_cnt (hm2 q (List.mem_cons_self ..))
          obtain ⟨v, hV⟩ := cnt_at hqc
          refine ⟨trivial, ?_⟩
          walk_at "ds"
          have g2c : Gw (telW true (telW true w p) q) 60 12 := tel_gw gF
          have ok2 := g2c.okd (show 12 ≤ 30 by decide)
          refine ⟨_, ⟨w, [p, q], rfl, by omega, by omega, fun r hr => ?_, by simp, rfl⟩, fun G22 g22 => ?_⟩
          · simp only [List.mem_cons, List.not_mem_nil, or_false] at hr
            rcases hr with rfl | rfl
            · exact hp
            · exact hqc
          rw [show tellW true w [p, q] = telW true (telW true w p) q from rfl]
          walk_at "ds"
          refine ⟨_, ⟨telW true w p, q, rfl, by omega, by omega, by rw [cnt_tel]; exact hqc, rfl⟩, fun G23 g23 => ?_⟩
          walk_at "ds"
          refine ne_same ok2 ?_
          walk_at "ds"
          refine ⟨_, ⟨w, [q, p], rfl, by omega, by omega, fun r hr => ?_, by simp, rfl⟩, fun G24 g24 => ?_⟩
          · simp only [List.mem_cons, List.not_mem_nil, or_false] at hr
            rcases hr with rfl | rfl
            · exact hqc
            · exact hp
          rw [show tellW true w [q, p] = telW true (telW true w q) p from rfl, tel_comm true w q p]
          walk_at "ds"
          refine ⟨_, ⟨w, [p, q], rfl, by omega, by omega, fun r hr => ?_, by simp, rfl⟩, fun G25 g25 => ?_⟩
          · simp only [List.mem_cons, List.not_mem_nil, or_false] at hr
            rcases hr with rfl | rfl
            · exact hp
            · exact hqc
          rw [show tellW true w [p, q] = telW true (telW true w p) q from rfl]
          walk_at "ds"
          refine ne_same ok2 ?_
          walk_at "ds"
          refine ⟨_, ⟨w, q, v, 0, 7, rfl, by omega, by omega, hV, by decide, by decide, rfl⟩, fun G26 g26 => ?_⟩
          rw [at_put hV]
          have gC : Gw (upW (bndW 0 7) w q) 60 12 := up_gw (lf_bnd 0 7) (bnd_ok (by decide) (by decide) (by decide)) hw q
          have hCc := gC.c
          have hCd := gC.d
          obtain ⟨u2, hA2⟩ := cnt_at (w := upW (bndW 0 7) w q) (p := p) (by rw [cnt_up (lf_bnd 0 7)]; exact hp)
          walk_at "ds"
          refine ⟨_, ⟨upW (bndW 0 7) w q, p, u2, 2, 40, rfl, by omega, by omega, hA2, by decide, by decide, rfl⟩, fun G27 g27 => ?_⟩
          rw [at_put hA2]
          walk_at "ds"
          have gX : Gw (upW (bndW 2 40) (upW (bndW 0 7) w q) p) 60 12 := up_gw (lf_bnd 2 40) (bnd_ok (by decide) (by decide) (by decide)) gC p
          have okX := gX.okd (show 12 ≤ 30 by decide)
          have gd := (((((g21.trans g22).trans g23).trans g24).trans g25).trans g26).trans g27
          refine cmp_i (ok_pth q) (ok_pth p) ?_
          rw [show eqvD (pthD q) (pthD p) = decide (q = p) from eqv_pthD q p]
          by_cases hqp : q = p
          · rw [decide_eq_true hqp]
            walk_at "ds"
            exact hK2 _ _ ⟨ts, _, _, rfl, fun r h => hm2 r (List.mem_cons_of_mem _ h), rfl, gd⟩
          · rw [decide_eq_false hqp]
            walk_at "ds"
            obtain ⟨v2, hV2⟩ := cnt_at (w := upW (bndW 2 40) w p) (p := q) (by rw [cnt_up (lf_bnd 2 40)]; exact hqc)
            refine ⟨_, ⟨upW (bndW 2 40) w p, q, v2, 0, 7, rfl, by omega, by omega, hV2, by decide, by decide, rfl⟩, fun G28 g28 => ?_⟩
            rw [at_put hV2, up_comm (lf_bnd 2 40) (lf_bnd 0 7) p q w fun h => (hqp h.symm).elim]
            walk_at "ds"
            refine ne_same okX ?_
            walk_at "ds"
            exact hK2 _ _ ⟨ts, _, _, rfl, fun r h => hm2 r (List.mem_cons_of_mem _ h), rfl, gd.trans g28⟩
end K12

namespace K12
open PySem L2 Dl K03 K04
local macro_rules | `(tactic| walk_at "ds") => `(tactic| repeat' with_reducible first
  | refine iVar (by with_unfolding_all rfl) ?_
  | refine iCons ?_
  | refine iNil ?_
  | refine iC ?_
  | refine iOp ?_
  | refine iSeq ?_
  | refine iAsg ?_
  | refine iGNm ?_
  | refine iTup ?_
  | refine iFrz ?_
  | refine iTst ?_
  | refine iIfS ?_
  | refine iRet ?_
  | refine iCall ?_
  | refine iNext ?_
  | refine lenOk (by with_unfolding_all rfl) ?_
  | refine frzEnd ?_
  | refine slT ?_
  | refine ifF ?_
  | refine iCB ?_
  | refine iSl ?_
  | refine iP ?_
  | refine iNoP ?_
  | refine iFor ?_
  | refine iISq ?_
  | refine len_t ?_
  | refine min2_ii ?_
  | refine ifNT ?_
  | refine ifNF ?_
  | fail "stuck")
theorem put_cons {x w u : Wk} {k : Nat} {p : Pth} (h : (innW w)[k]? = some u) : putW x w (k :: p) = setW w k (putW x u p) := by rw [putW, h]
theorem along_ex {w u : Wk} {k : Nat} {p : Pth} {l : List Wk} (h : (innW w)[k]? = some u) (e : alongW u p = some l) : alongW w (k :: p) = some (w :: l) := by rw [alongW, h]; dsimp only; rw [e]; rfl
theorem put_comm (x y : Wk) : ∀ (p q : Pth) (w : Wk) (l l2 : List Wk), alongW w p = some l → alongW w q = some l2 → p.take (min p.length q.length) ≠ q.take (min p.length q.length) →
    putW y (putW x w p) q = putW x (putW y w q) p ∧ ∃ l3, alongW (putW x w p) q = some l3
  | [], q, w, l, l2, h1, h2, h => by simp at h
  | i :: p, [], w, l, l2, h1, h2, h => by simp at h
  | i :: p, j :: q, w, l, l2, h1, h2, h => by
    obtain ⟨u, l', hu, e1, -, -⟩ := along_cons h1
    obtain ⟨v, l2', hv, e2, -, -⟩ := along_cons h2
    by_cases hij : i = j
    · subst hij
      obtain rfl : u = v := by rw [hu] at hv; injection hv
      obtain ⟨a, l3, b⟩ := put_comm x y p q u l' l2' e1 e2 fun hh => h (by
        rw [List.length_cons, List.length_cons, Nat.succ_min_succ, List.take_succ_cons, List.take_succ_cons, hh])
      refine ⟨?_, _, along_ex (u := putW x u p) ?_ b⟩
      · rw [put_cons hu, put_cons hu, put_cons (inn_at_set _ hu), put_cons (inn_at_set _ hu), set_set, set_set, a]
      · rw [put_cons hu]; exact inn_at_set _ hu
    · have hi := (List.getElem?_eq_some_iff.mp hu).1
      have hj := (List.getElem?_eq_some_iff.mp hv).1
      have e3 : (innW (setW w i (putW x u p)))[j]? = some v := by rw [inn_set _ hu, List.getElem?_set_ne hij]; exact hv
      have e4 : (innW (setW w j (putW y v q)))[i]? = some u := by rw [inn_set _ hv, List.getElem?_set_ne fun h => hij h.symm]; exact hu
      refine ⟨?_, _, along_ex (u := v) ?_ e2⟩
      · rw [put_cons hu, put_cons hv, put_cons e3, put_cons e4]
        exact set_comm _ _ hi hj hij
      · rw [put_cons hu]; exact e3
theorem gw_t8 : Gw (.tick 8) 1 1 := ⟨by simp [okW], by decide, by decide⟩
theorem gw_r0 : Gw (.row []) 1 1 := ⟨by simp [okW, okWs], by decide, by decide⟩
theorem law_apart_right_rd : ∀ ds G Q E, pSp RLR ds G Q E → r_law_apart_right (pSp RWp) (pSp Rps) { nx := fun _ G' => Q .non G', rt := Q } (startD 8 ds) G := by
  rintro ds G Q E ⟨_, ⟨w, rfl, hw, rfl⟩, hq⟩
  unfold r_law_apart_right
  have hz : (2000 : Nat) ≤ sizeLine := by decide
  have hc := hw.c
  have hd := hw.d
  have hlen : (preW [] w).length ≤ 60 := by rw [pre_len]; exact hc
  have okw := hw.okd (show 12 ≤ 30 by decide)
  walk_at "ds"
  refine lcF (preW [] w) prD (fun q => pthD q.1) ?_ (by omega) ?_ ?_
  · intro P hP
    walk_at "ds"
    refine ⟨_, ⟨w, rfl, by omega, by omega, rfl⟩, fun G2 g2 => ?_⟩
    dsimp only
    exact hP _ _ (fun _ => trivial) g2
  · intro q hq
    refine ⟨_, rfl, fun G1 K hK => ?_⟩
    walk_at "ds"
    exact hK _ (Grow.refl _)
  intro G1 g1
  walk_at "ds"
  refine slL (frzEnd ?_)
  rw [show (12 : Int) = ((12 : Nat) : Int) from rfl, cut_take, ← List.map_take]
  walk_at "ds"
  have hmem : ∀ q ∈ (preW [] w).take 12, q ∈ preW [] w := fun q h => List.mem_of_mem_take h
  generalize (preW [] w).take 12 = P at hmem
  refine dForGo_of (I := fun rest ρ G' => ∃ rs x4 x5 x6 x7, rest = rs.map (fun q : Pth × Wk => pthD q.1) ∧ (∀ q ∈ rs, q ∈ P) ∧ ρ = [some (toD w), some (.lst (P.map fun q => pthD q.1)), none, none, x4, x5, x6, x7] ∧ Grow G G') ?_ ?_ _ _ _
    ⟨P, _, _, _, _, rfl, fun q h => h, rfl, g1⟩
  · rintro ρ G3 ⟨rs, x4, x5, x6, x7, -, -, rfl, g3⟩
    refine ⟨trivial, ?_⟩
    walk_at "ds"
    exact hq _ g3
  · rintro z rest ρ G3 ⟨rs, x4, x5, x6, x7, e0, hm, rfl, g3⟩ K hK
    cases rs with
    | nil => cases e0
    | cons pu rs =>
      injection e0 with e2 e3
      subst e2 e3
      obtain ⟨p, u⟩ := pu
      obtain ⟨r, l, e1, ep, -, -⟩ := pre_along w [] (p, u) (hmem _ (hm (p, u) (List.mem_cons_self ..)))
      have e1 : p = r := e1
      subst e1
      have hpl := along_dep p w _ ep
      refine ⟨trivial, ?_⟩
      walk_at "ds"
      refine dForGo_of (I := fun rest ρ G' => ∃ ts y5 y6 y7, rest = ts.map (fun q : Pth × Wk => pthD q.1) ∧ (∀ q ∈ ts, q ∈ P) ∧ ρ = [some (toD w), some (.lst (P.map fun q => pthD q.1)), none, none, some (pthD p), y5, y6, y7] ∧ Grow G G') ?_ ?_ _ _ _
        ⟨P, _, _, _, rfl, fun q h => h, rfl, g3⟩
      · rintro ρ G4 ⟨ts, y5, y6, y7, -, -, rfl, g4⟩
        exact ⟨trivial, hK _ _ ⟨rs, _, _, _, _, rfl, fun q h => hm q (List.mem_cons_of_mem _ h), rfl, g4⟩⟩
      · rintro y rest ρ G4 ⟨ts, y5, y6, y7, e0, hm2, rfl, g4⟩ K2 hK2
        cases ts with
        | nil => cases e0
        | cons qv ts =>
          injection e0 with e2 e3
          subst e2 e3
          obtain ⟨q, v⟩ := qv
          obtain ⟨r, l2, e1, eq, -, -⟩ := pre_along w [] (q, v) (hmem _ (hm2 (q, v) (List.mem_cons_self ..)))
          have e1 : q = r := e1
          subst e1
          have hql := along_dep q w _ eq
          refine ⟨trivial, ?_⟩
          have go : ∀ x5 x6 x7 G', Grow G G' → K2 [some (toD w), some (.lst (P.map fun q => pthD q.1)), none, none, some (pthD p), x5, x6, x7] G' := fun x5 x6 x7 G' g => hK2 _ _ ⟨ts, _, _, _, rfl, fun r h => hm2 r (List.mem_cons_of_mem _ h), rfl, g⟩
          dsimp only
          rw [show pthD p = D.tup (p.map ixD) from rfl, show pthD q = D.tup (q.map ixD) from rfl] at *
          walk_at "ds"
          rw [show (if ((q.map ixD).length : Int) < ((p.map ixD).length : Int) then ((q.map ixD).length : Int) else ((p.map ixD).length : Int)) = ((min p.length q.length : Nat) : Int) from by rw [List.length_map, List.length_map]; split <;> omega]
          rw [cut_take, cut_take, ← List.map_take, ← List.map_take]
          refine cmp_i (ok_pth _) (ok_pth _) ?_
          rw [show eqvD (.tup ((p.take (min p.length q.length)).map ixD)) (.tup ((q.take (min p.length q.length)).map ixD)) = decide (p.take (min p.length q.length) = q.take (min p.length q.length)) from eqv_pthD _ _]
          by_cases hpq : p.take (min p.length q.length) = q.take (min p.length q.length)
          · rw [decide_eq_true hpq]
            walk_at "ds"
            exact go _ _ _ _ g4
          · rw [decide_eq_false hpq]
            obtain ⟨hcm, l3, h3⟩ := put_comm (.tick 8) (.row []) p q w l l2 ep eq hpq
            obtain ⟨-, l4, h4⟩ := put_comm (.row []) (.tick 8) q p w l2 l eq ep (by rw [Nat.min_comm]; exact fun h => hpq h.symm)
            have ga := putW_g gw_t8 p w l hw ep
            have gb := putW_g gw_r0 q w l2 hw eq
            have gab := putW_g gw_r0 q _ l3 ga h3
            have gac := ga.c
            have gad := ga.d
            have gbc := gb.c
            have gbd := gb.d
            have okab := gab.okd (show 12 + 1 + 1 ≤ 30 by decide)
            have tc := gw_t8.c
            have td := gw_t8.d
            have rc := gw_r0.c
            have rd := gw_r0.d
            walk_at "ds"
            refine ⟨_, ⟨w, p, _, .tick 8, by simp [toD, pthD], by omega, by omega, ep, gw_t8.ok, by omega, by omega, rfl⟩, fun G5 g5 => ?_⟩
            walk_at "ds"
            refine ⟨_, ⟨putW (.tick 8) w p, q, _, .row [], by simp [toD, toDs, pthD], by omega, by omega, h3, gw_r0.ok, by omega, by omega, rfl⟩, fun G6 g6 => ?_⟩
            walk_at "ds"
            refine ⟨_, ⟨w, q, _, .row [], by simp [toD, toDs, pthD], by omega, by omega, eq, gw_r0.ok, by omega, by omega, rfl⟩, fun G7 g7 => ?_⟩
            walk_at "ds"
            refine ⟨_, ⟨putW (.row []) w q, p, _, .tick 8, by simp [toD, pthD], by omega, by omega, h4, gw_t8.ok, by omega, by omega, rfl⟩, fun G8 g8 => ?_⟩
            rw [← hcm]
            walk_at "ds"
            refine ne_same okab ?_
            walk_at "ds"
            exact go _ _ _ _ ((((g4.trans g5).trans g6).trans g7).trans g8)
end K12

namespace K12
open PySem L2 Dl K03 K04
local macro_rules | `(tactic| walk_at "ds") => `(tactic| repeat' with_reducible first
  | refine iVar (by with_unfolding_all rfl) ?_
  | refine iCons ?_
  | refine iNil ?_
  | refine iC ?_
  | refine iOp ?_
  | refine iSeq ?_
  | refine iAsg ?_
  | refine iGNm ?_
  | refine iTup ?_
  | refine iTst ?_
  | refine iIfS ?_
  | refine iRet ?_
  | refine iCall ?_
  | refine iNext ?_
  | refine lenOk (by with_unfolding_all rfl) ?_
  | refine iTru ?_
  | refine truB ?_
  | refine iOr ?_
  | refine iNot ?_
  | refine ifF ?_
  | refine iCB ?_
  | refine iFor ?_
  | refine iISq ?_
  | refine ne_strT ?_
  | refine ifNT ?_
  | fail "stuck")
def spLaw12 : DSp := fun ds G Q _ => ∃ ns, ds = [.scr ns] ∧ ∀ G', Q (.bl true) G'
theorem gw_snd2 : Gw wSnd 60 12 := ⟨by simp [wSnd, okW, okWs], by decide, by decide⟩
theorem few_snd : 0 < fewW wSnd := by decide +kernel
theorem law_rd {n : Nat} (hn : 4 ≤ n) : ∀ ds G Q E, spLaw12 ds G Q E → r_law (pSp (RC (toD wSnd))) spWk (pSp Rlw) (pSp Rsz) (pSp RLR) (pSp RLR) (pSp RPR) (spFW n) spFeed { nx := fun _ G' => Q .non G', rt := Q } (startD 4 ds) G := by
  rintro ds G Q E ⟨ns, rfl, hq⟩
  unfold r_law
  have e2 : szF 2 = 13 := rfl
  walk_at "ds"
  refine ⟨ns, rfl, fun a G1 g1 f1 ha => ?_⟩
  walk_at "ds"
  refine ⟨a, 3, rfl, by omega, f1, fun w1 G2 hw1 fw1 f2 k2 => ?_⟩
  walk_at "ds"
  refine ⟨a, 2, rfl, by omega, f2, fun w2 G3 hw2 fw2 f3 k3 => ?_⟩
  walk_at "ds"
  refine ⟨_, ⟨rfl, rfl⟩, fun G4 g4 => ?_⟩
  walk_at "ds"
  dsimp only
  refine dForGo_of (I := fun rest ρ G' => ∃ ws x2 x3, rest = toDs ws ∧ (∀ w ∈ ws, Gw w 60 12 ∧ 0 < fewW w) ∧ ρ = [some (.scr ns), some (.ref a), x2, x3] ∧ FeedOk G' a) ?_ ?_ _ _ _
    ⟨[w1, w2, wSnd], _, _, rfl, ?_, rfl, f3.grow g4⟩
  rotate_left
  · rintro z rest ρ G5 ⟨ws, x2, x3, e0, hw, rfl, f5⟩ K hK
    cases ws with
    | nil => cases e0
    | cons w ws =>
      rw [toDs] at e0
      injection e0 with e2 e3
      subst e2 e3
      obtain ⟨gw, fw⟩ := hw w (List.mem_cons_self ..)
      have hc := gw.c
      have hd := gw.d
      have S := (gw.up (n' := 64) (d' := 26) (by omega) (by omega)).shw (by omega) (by omega)
      refine ⟨trivial, ?_⟩
      walk_at "ds"
      refine repr_s S ?_
      walk_at "ds"
      refine ⟨a, 2, rfl, by omega, by omega, f5, fun v G6 hv f6 k6 => ?_⟩
      walk_at "ds"
      refine ⟨_, ⟨w, v, rfl, gw, hv.gw (by omega) (by omega), rfl⟩, fun G7 g7 => ?_⟩
      walk_at "ds"
      refine ⟨_, ⟨w, rfl, gw, rfl⟩, fun G8 g8 => ?_⟩
      walk_at "ds"
      refine ⟨_, ⟨w, rfl, gw, rfl⟩, fun G9 g9 => ?_⟩
      walk_at "ds"
      refine ⟨_, ⟨w, rfl, gw.ok, by omega, by omega, fw, rfl⟩, fun G10 g10 => ?_⟩
      walk_at "ds"
      refine ⟨_, ⟨w, rfl, by omega, by omega, rfl⟩, fun G11 g11 => ?_⟩
      refine ne_same ok_int ?_
      walk_at "ds"
      refine repr_s S ?_
      walk_at "ds"
      exact hK _ _ ⟨ws, _, _, rfl, fun v hv => hw v (List.mem_cons_of_mem _ hv), rfl, (((((f6.grow g7).grow g8).grow g9).grow g10).grow g11)⟩
  · intro w hw
    simp only [List.mem_cons, List.not_mem_nil, or_false] at hw
    rcases hw with rfl | rfl | rfl
    · exact ⟨hw1.up (by omega) (by omega), fw1⟩
    · exact ⟨hw2.up (by omega) (by omega), fw2⟩
    · exact ⟨gw_snd2, few_snd⟩
  rintro ρ G5 ⟨ws, x2, x3, -, -, rfl, f5⟩
  refine ⟨trivial, ?_⟩
  walk_at "ds"
  exact hq _
end K12

namespace K12
open PySem L2 Dl
structure Tx (w : World) (K : PySem.W.Frag) (mg : Str → Option Value) : Prop where
  m_all : mg "all" = none
  m_bool : mg "bool" = none
  m_enumerate : mg "enumerate" = none
  m_int : mg "int" = none
  m_isinstance : mg "isinstance" = none
  m_len : mg "len" = none
  m_list : mg "list" = none
  m_max : mg "max" = none
  m_min : mg "min" = none
  m_range : mg "range" = none
  m_repr : mg "repr" = none
  m_set : mg "set" = none
  m_sorted : mg "sorted" = none
  m_str : mg "str" = none
  m_sum : mg "sum" = none
  m_tuple : mg "tuple" = none
  m_zip : mg "zip" = none
  c_COUNTED : ∃ u, mg "COUNTED" = some u ∧ ∃ v, RelV v u ∧ ∀ G H, RepV K G H (.tup [.str "some", .str "loop"]) v
  w_WORK_SIZES : WDic K w mg "WORK_SIZES" [("tick", 2), ("some", 4), ("row", 2), ("loop", 5), ("either", 2), ("beside", 3)]
  kno : KNo K
theorem hu70_of {A : Around} {k : Nat} (hr : Room k A) : A.units + 70 < cLine := by have := hr.un; omega
abbrev N_is_integer : List Str := ["thing"]
abbrev P_is_integer : List Str := ["thing"]

theorem sc_is_integer : FnScope N_is_integer P_is_integer (defScope s_is_integer) := ⟨rfl, rfl, rfl, by decide +kernel, rfl, by decide +kernel, by decide +kernel⟩

theorem b_is_integer {P : Program} {w : World} {K : PySem.W.Frag} {mg : Str → Option Value} {base : Heap} {k : Nat} {f : Addr} (T : Tx w K mg)    (cdv : Value) (A : Around) (out : List Env) (st : Shared) (H : Hp) (E : XK)
    (hr : Room k (A.deeper (PyProof.Rows.envOfC "is_integer" (defScope s_is_integer) st.heap.objs.size f cdv))) (hgd : (A.deeper (PyProof.Rows.envOfC "is_integer" (defScope s_is_integer) st.heap.objs.size f cdv)).guards = some []) :
    DSs (cxOf CX0 P w K mg base N_is_integer "is_integer" (defScope s_is_integer) f cdv A out st H E).nox (defBody s_is_integer) (r_is_integer) := by
  have SC := sc_is_integer
  have hu := hu_of hr
  have hu64 := hr.units
  have hu70 := hu70_of hr
  exact (ds_one (ds_ret (de_and (de_isi (T := "int") (by decide) rfl T.m_isinstance rfl T.m_int (by decide +kernel) (dv 0)) (de_one (de_not (de_isi (T := "bool") (by decide) rfl T.m_isinstance rfl T.m_bool (by decide +kernel) (dv 0)))))))

theorem d_is_integer {P : Program} {w : World} {K : PySem.W.Frag} {mg : Str → Option Value} {base : Heap} {k : Nat} {f : Addr} {fd : FuncData} {sp : DSp} (T : Tx w K mg)   
    (F : FunD K "is_integer" "is_integer" (defArgs s_is_integer) (defBody s_is_integer) (defScope s_is_integer) [] [] f fd) (len : ∀ ds G Q E, sp ds G Q E → ds.length = 1)
    (ok : ∀ ds G Q E, sp ds G Q E → (r_is_integer) { nx := fun _ G' => Q .non G', rt := Q } (startD 1 ds) G) : DFn P w K mg base (k + 1) f fd P_is_integer sp :=
  dfn_of F sc_is_integer len (b_is_integer T) ok

theorem k_is_integer {P : Program} {w : World} {K : PySem.W.Frag} {mg : Str → Option Value} {base : Heap} {k : Nat} {f : Addr} {fd : FuncData} {sp : DSp} (T : Tx w K mg)   
    (F : FunD K "is_integer" "is_integer" (defArgs s_is_integer) (defBody s_is_integer) (defScope s_is_integer) [] [] f fd) (hm : mg "is_integer" = some (.ref f)) (len : ∀ ds G Q E, sp ds G Q E → ds.length = 1)
    (ok : ∀ ds G Q E, sp ds G Q E → (r_is_integer) { nx := fun _ G' => Q .non G', rt := Q } (startD 1 ds) G) : Callee P w K mg base (k + 1) "is_integer" P_is_integer sp :=
  callee_of F hm (d_is_integer T F len ok) (fun _ _ _ _ _ _ us hl => match us, hl with | [_], _ => rfl) (fun _ _ _ _ _ _ us hl => match us, hl with | [_], _ => rfl)

abbrev N_is_number : List Str := ["thing"]
abbrev P_is_number : List Str := ["thing"]

theorem sc_is_number : FnScope N_is_number P_is_number (defScope s_is_number) := ⟨rfl, rfl, rfl, by decide +kernel, rfl, by decide +kernel, by decide +kernel⟩

theorem b_is_number {P : Program} {w : World} {K : PySem.W.Frag} {mg : Str → Option Value} {base : Heap} {k : Nat} {f : Addr} (T : Tx w K mg) {sp_is_integer : DSp} (C_is_integer : Callee P w K mg base k "is_integer" P_is_integer sp_is_integer)  (cdv : Value) (A : Around) (out : List Env) (st : Shared) (H : Hp) (E : XK)
    (hr : Room k (A.deeper (PyProof.Rows.envOfC "is_number" (defScope s_is_number) st.heap.objs.size f cdv))) (hgd : (A.deeper (PyProof.Rows.envOfC "is_number" (defScope s_is_number) st.heap.objs.size f cdv)).guards = some []) :
    DSs (cxOf CX0 P w K mg base N_is_number "is_number" (defScope s_is_number) f cdv A out st H E).nox (defBody s_is_number) (r_is_number sp_is_integer) := by
  have SC := sc_is_number
  have hu := hu_of hr
  have hu64 := hr.units
  have hu70 := hu70_of hr
  exact (ds_one (ds_ret (de_and (dc C_is_integer hr hgd rfl (da_cons (dv 0) da_nil)) (de_one (de_cmp o_ge (dv 0) de_int (nomark _))))))

theorem d_is_number {P : Program} {w : World} {K : PySem.W.Frag} {mg : Str → Option Value} {base : Heap} {k : Nat} {f : Addr} {fd : FuncData} {sp : DSp} (T : Tx w K mg) {sp_is_integer : DSp} (C_is_integer : Callee P w K mg base k "is_integer" P_is_integer sp_is_integer) 
    (F : FunD K "is_number" "is_number" (defArgs s_is_number) (defBody s_is_number) (defScope s_is_number) [] [] f fd) (len : ∀ ds G Q E, sp ds G Q E → ds.length = 1)
    (ok : ∀ ds G Q E, sp ds G Q E → (r_is_number sp_is_integer) { nx := fun _ G' => Q .non G', rt := Q } (startD 1 ds) G) : DFn P w K mg base (k + 1) f fd P_is_number sp :=
  dfn_of F sc_is_number len (b_is_number T C_is_integer) ok

theorem k_is_number {P : Program} {w : World} {K : PySem.W.Frag} {mg : Str → Option Value} {base : Heap} {k : Nat} {f : Addr} {fd : FuncData} {sp : DSp} (T : Tx w K mg) {sp_is_integer : DSp} (C_is_integer : Callee P w K mg base k "is_integer" P_is_integer sp_is_integer) 
    (F : FunD K "is_number" "is_number" (defArgs s_is_number) (defBody s_is_number) (defScope s_is_number) [] [] f fd) (hm : mg "is_number" = some (.ref f)) (len : ∀ ds G Q E, sp ds G Q E → ds.length = 1)
    (ok : ∀ ds G Q E, sp ds G Q E → (r_is_number sp_is_integer) { nx := fun _ G' => Q .non G', rt := Q } (startD 1 ds) G) : Callee P w K mg base (k + 1) "is_number" P_is_number sp :=
  callee_of F hm (d_is_number T C_is_integer F len ok) (fun _ _ _ _ _ _ us hl => match us, hl with | [_], _ => rfl) (fun _ _ _ _ _ _ us hl => match us, hl with | [_], _ => rfl)

abbrev N_is_amount : List Str := ["thing"]
abbrev P_is_amount : List Str := ["thing"]

theorem sc_is_amount : FnScope N_is_amount P_is_amount (defScope s_is_amount) := ⟨rfl, rfl, rfl, by decide +kernel, rfl, by decide +kernel, by decide +kernel⟩

theorem b_is_amount {P : Program} {w : World} {K : PySem.W.Frag} {mg : Str → Option Value} {base : Heap} {k : Nat} {f : Addr} (T : Tx w K mg) {sp_is_integer : DSp} (C_is_integer : Callee P w K mg base k "is_integer" P_is_integer sp_is_integer)  (cdv : Value) (A : Around) (out : List Env) (st : Shared) (H : Hp) (E : XK)
    (hr : Room k (A.deeper (PyProof.Rows.envOfC "is_amount" (defScope s_is_amount) st.heap.objs.size f cdv))) (hgd : (A.deeper (PyProof.Rows.envOfC "is_amount" (defScope s_is_amount) st.heap.objs.size f cdv)).guards = some []) :
    DSs (cxOf CX0 P w K mg base N_is_amount "is_amount" (defScope s_is_amount) f cdv A out st H E).nox (defBody s_is_amount) (r_is_amount sp_is_integer) := by
  have SC := sc_is_amount
  have hu := hu_of hr
  have hu64 := hr.units
  have hu70 := hu70_of hr
  exact (ds_one (ds_ret (de_and (dc C_is_integer hr hgd rfl (da_cons (dv 0) da_nil)) (de_one (de_cmp o_ge (dv 0) de_int (nomark _))))))

theorem d_is_amount {P : Program} {w : World} {K : PySem.W.Frag} {mg : Str → Option Value} {base : Heap} {k : Nat} {f : Addr} {fd : FuncData} {sp : DSp} (T : Tx w K mg) {sp_is_integer : DSp} (C_is_integer : Callee P w K mg base k "is_integer" P_is_integer sp_is_integer) 
    (F : FunD K "is_amount" "is_amount" (defArgs s_is_amount) (defBody s_is_amount) (defScope s_is_amount) [] [] f fd) (len : ∀ ds G Q E, sp ds G Q E → ds.length = 1)
    (ok : ∀ ds G Q E, sp ds G Q E → (r_is_amount sp_is_integer) { nx := fun _ G' => Q .non G', rt := Q } (startD 1 ds) G) : DFn P w K mg base (k + 1) f fd P_is_amount sp :=
  dfn_of F sc_is_amount len (b_is_amount T C_is_integer) ok

theorem k_is_amount {P : Program} {w : World} {K : PySem.W.Frag} {mg : Str → Option Value} {base : Heap} {k : Nat} {f : Addr} {fd : FuncData} {sp : DSp} (T : Tx w K mg) {sp_is_integer : DSp} (C_is_integer : Callee P w K mg base k "is_integer" P_is_integer sp_is_integer) 
    (F : FunD K "is_amount" "is_amount" (defArgs s_is_amount) (defBody s_is_amount) (defScope s_is_amount) [] [] f fd) (hm : mg "is_amount" = some (.ref f)) (len : ∀ ds G Q E, sp ds G Q E → ds.length = 1)
    (ok : ∀ ds G Q E, sp ds G Q E → (r_is_amount sp_is_integer) { nx := fun _ G' => Q .non G', rt := Q } (startD 1 ds) G) : Callee P w K mg base (k + 1) "is_amount" P_is_amount sp :=
  callee_of F hm (d_is_amount T C_is_integer F len ok) (fun _ _ _ _ _ _ us hl => match us, hl with | [_], _ => rfl) (fun _ _ _ _ _ _ us hl => match us, hl with | [_], _ => rfl)

abbrev N_work_word : List Str := ["thing", "word"]
abbrev P_work_word : List Str := ["thing"]

theorem sc_work_word : FnScope N_work_word P_work_word (defScope s_work_word) := ⟨rfl, rfl, rfl, by decide +kernel, rfl, by decide +kernel, by decide +kernel⟩

theorem b_work_word {P : Program} {w : World} {K : PySem.W.Frag} {mg : Str → Option Value} {base : Heap} {k : Nat} {f : Addr} (T : Tx w K mg)    (cdv : Value) (A : Around) (out : List Env) (st : Shared) (H : Hp) (E : XK)
    (hr : Room k (A.deeper (PyProof.Rows.envOfC "work_word" (defScope s_work_word) st.heap.objs.size f cdv))) (hgd : (A.deeper (PyProof.Rows.envOfC "work_word" (defScope s_work_word) st.heap.objs.size f cdv)).guards = some []) :
    DSs (cxOf CX0 P w K mg base N_work_word "work_word" (defScope s_work_word) f cdv A out st H E).nox (defBody s_work_word) (r_work_word) := by
  have SC := sc_work_word
  have hu := hu_of hr
  have hu64 := hr.units
  have hu70 := hu70_of hr
  exact (ds_cons (ds_if (dt_w (dw_or (dt_not (dt_tru (de_isi (T := "tuple") (by decide) rfl T.m_isinstance rfl T.m_tuple (by decide +kernel) (dv 0)))) (dw_or (dt_cmp (o_eq hu64) (de_callB c_len rfl T.m_len PySem.boot_len (da_cons (dv 0) da_nil)) de_int (nomark _)) (dw_or1 (dt_not (dt_tru (de_isi (T := "str") (by decide) rfl T.m_isinstance rfl T.m_str (by decide +kernel) (de_ix (dv 0) de_int))))))))
  (ds_one (ds_ret de_non))
  ds_nil)
  (ds_cons (ds_set (i := 1) SC.nd rfl (by first | exact Or.inl rfl | exact Or.inr rfl) (de_ix (dv 0) de_int))
  (ds_one (ds_ret (de_if (dt_w (dw_and (dt_inW (.inl ⟨rfl, rfl⟩) T.w_WORK_SIZES rfl (dv 1)) (dw_and1 (dt_cmp (o_eq hu64) (de_callB c_len rfl T.m_len PySem.boot_len (da_cons (dv 0) da_nil)) (de_getW T.w_WORK_SIZES rfl (dv 1)) (nomark _))))) (dv 1) de_non)))))

theorem d_work_word {P : Program} {w : World} {K : PySem.W.Frag} {mg : Str → Option Value} {base : Heap} {k : Nat} {f : Addr} {fd : FuncData} {sp : DSp} (T : Tx w K mg)   
    (F : FunD K "work_word" "work_word" (defArgs s_work_word) (defBody s_work_word) (defScope s_work_word) [] [] f fd) (len : ∀ ds G Q E, sp ds G Q E → ds.length = 1)
    (ok : ∀ ds G Q E, sp ds G Q E → (r_work_word) { nx := fun _ G' => Q .non G', rt := Q } (startD 2 ds) G) : DFn P w K mg base (k + 1) f fd P_work_word sp :=
  dfn_of F sc_work_word len (b_work_word T) ok

theorem k_work_word {P : Program} {w : World} {K : PySem.W.Frag} {mg : Str → Option Value} {base : Heap} {k : Nat} {f : Addr} {fd : FuncData} {sp : DSp} (T : Tx w K mg)   
    (F : FunD K "work_word" "work_word" (defArgs s_work_word) (defBody s_work_word) (defScope s_work_word) [] [] f fd) (hm : mg "work_word" = some (.ref f)) (len : ∀ ds G Q E, sp ds G Q E → ds.length = 1)
    (ok : ∀ ds G Q E, sp ds G Q E → (r_work_word) { nx := fun _ G' => Q .non G', rt := Q } (startD 2 ds) G) : Callee P w K mg base (k + 1) "work_word" P_work_word sp :=
  callee_of F hm (d_work_word T F len ok) (fun _ _ _ _ _ _ us hl => match us, hl with | [_], _ => rfl) (fun _ _ _ _ _ _ us hl => match us, hl with | [_], _ => rfl)

abbrev N_inner_works : List Str := ["work"]
abbrev P_inner_works : List Str := ["work"]

theorem sc_inner_works : FnScope N_inner_works P_inner_works (defScope s_inner_works) := ⟨rfl, rfl, rfl, by decide +kernel, rfl, by decide +kernel, by decide +kernel⟩

theorem b_inner_works {P : Program} {w : World} {K : PySem.W.Frag} {mg : Str → Option Value} {base : Heap} {k : Nat} {f : Addr} (T : Tx w K mg)    (cdv : Value) (A : Around) (out : List Env) (st : Shared) (H : Hp) (E : XK)
    (hr : Room k (A.deeper (PyProof.Rows.envOfC "inner_works" (defScope s_inner_works) st.heap.objs.size f cdv))) (hgd : (A.deeper (PyProof.Rows.envOfC "inner_works" (defScope s_inner_works) st.heap.objs.size f cdv)).guards = some []) :
    DSs (cxOf CX0 P w K mg base N_inner_works "inner_works" (defScope s_inner_works) f cdv A out st H E).nox (defBody s_inner_works) (r_inner_works) := by
  have SC := sc_inner_works
  have hu := hu_of hr
  have hu64 := hr.units
  have hu70 := hu70_of hr
  exact (ds_cons (ds_if (dt_cmp o_in (de_ix (dv 0) de_int) (de_tup (da_cons de_str (da_cons de_str da_nil))) rfl)
  (ds_one (ds_ret (de_frz (de_callTy c_list rfl T.m_list (by decide +kernel) (da_cons (de_ix (dv 0) de_int) da_nil)))))
  ds_nil)
  (ds_cons (ds_if (dt_cmp (o_eq hu64) (de_ix (dv 0) de_int) de_str (nomark _))
  (ds_one (ds_ret (de_frz (de_lst (da_cons (de_ix (dv 0) de_int) da_nil)))))
  ds_nil)
  (ds_one (ds_ret (de_if (dt_cmp (o_eq hu64) (de_ix (dv 0) de_int) de_str (nomark _)) (de_frz (de_lst (da_cons (de_ix (dv 0) de_int) (da_cons (de_ix (dv 0) de_int) da_nil)))) (de_frz (de_lst da_nil)))))))

theorem d_inner_works {P : Program} {w : World} {K : PySem.W.Frag} {mg : Str → Option Value} {base : Heap} {k : Nat} {f : Addr} {fd : FuncData} {sp : DSp} (T : Tx w K mg)   
    (F : FunD K "inner_works" "inner_works" (defArgs s_inner_works) (defBody s_inner_works) (defScope s_inner_works) [] [] f fd) (len : ∀ ds G Q E, sp ds G Q E → ds.length = 1)
    (ok : ∀ ds G Q E, sp ds G Q E → (r_inner_works) { nx := fun _ G' => Q .non G', rt := Q } (startD 1 ds) G) : DFn P w K mg base (k + 1) f fd P_inner_works sp :=
  dfn_of F sc_inner_works len (b_inner_works T) ok

theorem k_inner_works {P : Program} {w : World} {K : PySem.W.Frag} {mg : Str → Option Value} {base : Heap} {k : Nat} {f : Addr} {fd : FuncData} {sp : DSp} (T : Tx w K mg)   
    (F : FunD K "inner_works" "inner_works" (defArgs s_inner_works) (defBody s_inner_works) (defScope s_inner_works) [] [] f fd) (hm : mg "inner_works" = some (.ref f)) (len : ∀ ds G Q E, sp ds G Q E → ds.length = 1)
    (ok : ∀ ds G Q E, sp ds G Q E → (r_inner_works) { nx := fun _ G' => Q .non G', rt := Q } (startD 1 ds) G) : Callee P w K mg base (k + 1) "inner_works" P_inner_works sp :=
  callee_of F hm (d_inner_works T F len ok) (fun _ _ _ _ _ _ us hl => match us, hl with | [_], _ => rfl) (fun _ _ _ _ _ _ us hl => match us, hl with | [_], _ => rfl)

abbrev N_form_fault : List Str := ["thing", "word"]
abbrev P_form_fault : List Str := ["thing"]

theorem sc_form_fault : FnScope N_form_fault P_form_fault (defScope s_form_fault) := ⟨rfl, rfl, rfl, by decide +kernel, rfl, by decide +kernel, by decide +kernel⟩

theorem b_form_fault {P : Program} {w : World} {K : PySem.W.Frag} {mg : Str → Option Value} {base : Heap} {k : Nat} {f : Addr} (T : Tx w K mg) {sp_is_number : DSp} {sp_is_amount : DSp} {sp_work_word : DSp} (C_is_number : Callee P w K mg base k "is_number" P_is_number sp_is_number) (C_is_amount : Callee P w K mg base k "is_amount" P_is_amount sp_is_amount) (C_work_word : Callee P w K mg base k "work_word" P_work_word sp_work_word)  (cdv : Value) (A : Around) (out : List Env) (st : Shared) (H : Hp) (E : XK)
    (hr : Room k (A.deeper (PyProof.Rows.envOfC "form_fault" (defScope s_form_fault) st.heap.objs.size f cdv))) (hgd : (A.deeper (PyProof.Rows.envOfC "form_fault" (defScope s_form_fault) st.heap.objs.size f cdv)).guards = some []) :
    DSs (cxOf CX0 P w K mg base N_form_fault "form_fault" (defScope s_form_fault) f cdv A out st H E).nox (defBody s_form_fault) (r_form_fault sp_is_number sp_is_amount sp_work_word) := by
  have SC := sc_form_fault
  have hu := hu_of hr
  have hu64 := hr.units
  have hu70 := hu70_of hr
  exact (ds_cons (ds_set (i := 1) SC.nd rfl (by first | exact Or.inl rfl | exact Or.inr rfl) (dc C_work_word hr hgd rfl (da_cons (dv 0) da_nil)))
  (ds_cons (ds_if (dt_cmp o_isN (dv 1) de_non (nomark _))
  (ds_one (ds_ret de_str))
  ds_nil)
  (ds_cons (ds_if (dt_cmp (o_eq hu64) (dv 1) de_str (nomark _))
  (ds_one (ds_ret (de_if (dt_tru (dc C_is_amount hr hgd rfl (da_cons (de_ix (dv 0) de_int) da_nil))) de_non de_str)))
  ds_nil)
  (ds_cons (ds_if (dt_cmp o_in (dv 1) (de_glob rfl T.c_COUNTED) rfl)
  (ds_cons (ds_if (dt_w (dw_or (dt_not (dt_tru (dc C_is_number hr hgd rfl (da_cons (de_ix (dv 0) de_int) da_nil)))) (dw_or (dt_not (dt_tru (dc C_is_number hr hgd rfl (da_cons (de_ix (dv 0) de_int) da_nil)))) (dw_or1 (dt_cmp o_gt (de_ix (dv 0) de_int) (de_ix (dv 0) de_int) (nomark _))))))
  (ds_one (ds_ret de_str))
  ds_nil)
  (ds_one (ds_ret (de_if (dt_tru (de_isi (T := "bool") (by decide) rfl T.m_isinstance rfl T.m_bool (by decide +kernel) (de_ix (dv 0) de_int))) de_non de_str))))
  ds_nil)
  (ds_cons (ds_if (dt_cmp (o_eq hu64) (dv 1) de_str (nomark _))
  (ds_one (ds_ret de_non))
  ds_nil)
  (ds_cons (ds_if (dt_w (dw_or (dt_not (dt_tru (de_isi (T := "tuple") (by decide) rfl T.m_isinstance rfl T.m_tuple (by decide +kernel) (de_ix (dv 0) de_int)))) (dw_or1 (dt_w (dw_and (dt_cmp (o_eq hu64) (dv 1) de_str (nomark _)) (dw_and1 (dt_cmp (o_eq hu64) (de_callB c_len rfl T.m_len PySem.boot_len (da_cons (de_ix (dv 0) de_int) da_nil)) de_int (nomark _))))))))
  (ds_one (ds_ret de_str))
  ds_nil)
  (ds_one (ds_ret de_non))))))))

theorem d_form_fault {P : Program} {w : World} {K : PySem.W.Frag} {mg : Str → Option Value} {base : Heap} {k : Nat} {f : Addr} {fd : FuncData} {sp : DSp} (T : Tx w K mg) {sp_is_number : DSp} {sp_is_amount : DSp} {sp_work_word : DSp} (C_is_number : Callee P w K mg base k "is_number" P_is_number sp_is_number) (C_is_amount : Callee P w K mg base k "is_amount" P_is_amount sp_is_amount) (C_work_word : Callee P w K mg base k "work_word" P_work_word sp_work_word) 
    (F : FunD K "form_fault" "form_fault" (defArgs s_form_fault) (defBody s_form_fault) (defScope s_form_fault) [] [] f fd) (len : ∀ ds G Q E, sp ds G Q E → ds.length = 1)
    (ok : ∀ ds G Q E, sp ds G Q E → (r_form_fault sp_is_number sp_is_amount sp_work_word) { nx := fun _ G' => Q .non G', rt := Q } (startD 2 ds) G) : DFn P w K mg base (k + 1) f fd P_form_fault sp :=
  dfn_of F sc_form_fault len (b_form_fault T C_is_number C_is_amount C_work_word) ok

theorem k_form_fault {P : Program} {w : World} {K : PySem.W.Frag} {mg : Str → Option Value} {base : Heap} {k : Nat} {f : Addr} {fd : FuncData} {sp : DSp} (T : Tx w K mg) {sp_is_number : DSp} {sp_is_amount : DSp} {sp_work_word : DSp} (C_is_number : Callee P w K mg base k "is_number" P_is_number sp_is_number) (C_is_amount : Callee P w K mg base k "is_amount" P_is_amount sp_is_amount) (C_work_word : Callee P w K mg base k "work_word" P_work_word sp_work_word) 
    (F : FunD K "form_fault" "form_fault" (defArgs s_form_fault) (defBody s_form_fault) (defScope s_form_fault) [] [] f fd) (hm : mg "form_fault" = some (.ref f)) (len : ∀ ds G Q E, sp ds G Q E → ds.length = 1)
    (ok : ∀ ds G Q E, sp ds G Q E → (r_form_fault sp_is_number sp_is_amount sp_work_word) { nx := fun _ G' => Q .non G', rt := Q } (startD 2 ds) G) : Callee P w K mg base (k + 1) "form_fault" P_form_fault sp :=
  callee_of F hm (d_form_fault T C_is_number C_is_amount C_work_word F len ok) (fun _ _ _ _ _ _ us hl => match us, hl with | [_], _ => rfl) (fun _ _ _ _ _ _ us hl => match us, hl with | [_], _ => rfl)

abbrev N_inner_pairs : List Str := ["path", "work", "k", "inner"]
abbrev P_inner_pairs : List Str := ["path", "work"]

theorem sc_inner_pairs : FnScope N_inner_pairs P_inner_pairs (defScope s_inner_pairs) := ⟨rfl, rfl, rfl, by decide +kernel, rfl, by decide +kernel, by decide +kernel⟩

theorem b_inner_pairs {P : Program} {w : World} {K : PySem.W.Frag} {mg : Str → Option Value} {base : Heap} {k : Nat} {f : Addr} (T : Tx w K mg) {sp_inner_works : DSp} (C_inner_works : Callee P w K mg base k "inner_works" P_inner_works sp_inner_works)  (cdv : Value) (A : Around) (out : List Env) (st : Shared) (H : Hp) (E : XK)
    (hr : Room k (A.deeper (PyProof.Rows.envOfC "inner_pairs" (defScope s_inner_pairs) st.heap.objs.size f cdv))) (hgd : (A.deeper (PyProof.Rows.envOfC "inner_pairs" (defScope s_inner_pairs) st.heap.objs.size f cdv)).guards = some []) :
    DSs (cxOf CX0 P w K mg base N_inner_pairs "inner_pairs" (defScope s_inner_pairs) f cdv A out st H E).nox (defBody s_inner_pairs) (r_inner_pairs sp_inner_works) := by
  have SC := sc_inner_pairs
  have hu := hu_of hr
  have hu64 := hr.units
  have hu70 := hu70_of hr
  exact (ds_one (ds_ret (de_frz (de_lc (own := [("k", 2), ("inner", 3)]) (ct := (.tup [2, 3])) rfl SC.nd (di_enumL rfl T.m_enumerate (dc C_inner_works hr hgd rfl (da_cons (dv 1) da_nil))) (blkOk_by (by show blkC N_inner_pairs (defScope s_inner_pairs) _ _ = true; decide +kernel)) (by decide) (fun _ _ _ _ _ => pg_tup rfl (pgs_cons (pg_name (i := 2) SC.nd rfl (Or.inl rfl)) (pgs_cons (pg_name (i := 3) SC.nd rfl (Or.inl rfl)) pgs_nil))) (fun _ _ _ _ _ => dts_nil) (fun _ _ _ _ _ => (de_tup (da_cons (de_tup (da_star (dv 0) (da_cons (dv 2) da_nil))) (da_cons (dv 3) da_nil))))))))

theorem d_inner_pairs {P : Program} {w : World} {K : PySem.W.Frag} {mg : Str → Option Value} {base : Heap} {k : Nat} {f : Addr} {fd : FuncData} {sp : DSp} (T : Tx w K mg) {sp_inner_works : DSp} (C_inner_works : Callee P w K mg base k "inner_works" P_inner_works sp_inner_works) 
    (F : FunD K "inner_pairs" "inner_pairs" (defArgs s_inner_pairs) (defBody s_inner_pairs) (defScope s_inner_pairs) [] [] f fd) (len : ∀ ds G Q E, sp ds G Q E → ds.length = 2)
    (ok : ∀ ds G Q E, sp ds G Q E → (r_inner_pairs sp_inner_works) { nx := fun _ G' => Q .non G', rt := Q } (startD 4 ds) G) : DFn P w K mg base (k + 1) f fd P_inner_pairs sp :=
  dfn_of F sc_inner_pairs len (b_inner_pairs T C_inner_works) ok

theorem k_inner_pairs {P : Program} {w : World} {K : PySem.W.Frag} {mg : Str → Option Value} {base : Heap} {k : Nat} {f : Addr} {fd : FuncData} {sp : DSp} (T : Tx w K mg) {sp_inner_works : DSp} (C_inner_works : Callee P w K mg base k "inner_works" P_inner_works sp_inner_works) 
    (F : FunD K "inner_pairs" "inner_pairs" (defArgs s_inner_pairs) (defBody s_inner_pairs) (defScope s_inner_pairs) [] [] f fd) (hm : mg "inner_pairs" = some (.ref f)) (len : ∀ ds G Q E, sp ds G Q E → ds.length = 2)
    (ok : ∀ ds G Q E, sp ds G Q E → (r_inner_pairs sp_inner_works) { nx := fun _ G' => Q .non G', rt := Q } (startD 4 ds) G) : Callee P w K mg base (k + 1) "inner_pairs" P_inner_pairs sp :=
  callee_of F hm (d_inner_pairs T C_inner_works F len ok) (fun _ _ _ _ _ _ us hl => match us, hl with | [_, _], _ => rfl) (fun _ _ _ _ _ _ us hl => match us, hl with | [_, _], _ => rfl)

abbrev N_work_fault : List Str := ["thing", "waiting", "path", "work", "word"]
abbrev P_work_fault : List Str := ["thing"]

theorem sc_work_fault : FnScope N_work_fault P_work_fault (defScope s_work_fault) := ⟨rfl, rfl, rfl, by decide +kernel, rfl, by decide +kernel, by decide +kernel⟩

theorem b_work_fault {P : Program} {w : World} {K : PySem.W.Frag} {mg : Str → Option Value} {base : Heap} {k : Nat} {f : Addr} (T : Tx w K mg) {sp_inner_pairs : DSp} {sp_form_fault : DSp} (C_inner_pairs : Callee P w K mg base k "inner_pairs" P_inner_pairs sp_inner_pairs) (C_form_fault : Callee P w K mg base k "form_fault" P_form_fault sp_form_fault)  (cdv : Value) (A : Around) (out : List Env) (st : Shared) (H : Hp) (E : XK)
    (hr : Room k (A.deeper (PyProof.Rows.envOfC "work_fault" (defScope s_work_fault) st.heap.objs.size f cdv))) (hgd : (A.deeper (PyProof.Rows.envOfC "work_fault" (defScope s_work_fault) st.heap.objs.size f cdv)).guards = some []) :
    DSs (cxOf CX0 P w K mg base N_work_fault "work_fault" (defScope s_work_fault) f cdv A out st H E).nox (defBody s_work_fault) (r_work_fault sp_inner_pairs sp_form_fault) := by
  have SC := sc_work_fault
  have hu := hu_of hr
  have hu64 := hr.units
  have hu70 := hu70_of hr
  exact (ds_cons (ds_set (i := 1) SC.nd rfl (by first | exact Or.inl rfl | exact Or.inr rfl) (de_lst (da_cons (de_tup (da_cons (de_tup da_nil) (da_cons (dv 0) da_nil))) da_nil)))
  (ds_cons (ds_while PassesOwn.never (dt_cmp o_gt (de_callB c_len rfl T.m_len PySem.boot_len (da_cons (dv 1) da_nil)) de_int (nomark _))
  (ds_cons (ds_asg (de_pop (dv 1)) (dg_tup rfl (dgs_cons (dg_name (i := 2) SC.nd rfl (by first | exact Or.inl rfl | exact Or.inr rfl)) (dgs_cons (dg_name (i := 3) SC.nd rfl (by first | exact Or.inl rfl | exact Or.inr rfl)) dgs_nil))))
  (ds_cons (ds_set (i := 4) SC.nd rfl (by first | exact Or.inl rfl | exact Or.inr rfl) (dc C_form_fault hr hgd rfl (da_cons (dv 3) da_nil)))
  (ds_cons (ds_if (dt_cmp o_notN (dv 4) de_non (nomark _))
  (ds_one (ds_ret (de_tup (da_cons (dv 4) (da_cons (dv 2) da_nil)))))
  ds_nil)
  (ds_one (ds_expr (de_extend (dv 1) (de_frz (de_rev (dc C_inner_pairs hr hgd rfl (da_cons (dv 2) (da_cons (dv 3) da_nil))))))))))))
  (ds_one (ds_ret de_non))))

theorem d_work_fault {P : Program} {w : World} {K : PySem.W.Frag} {mg : Str → Option Value} {base : Heap} {k : Nat} {f : Addr} {fd : FuncData} {sp : DSp} (T : Tx w K mg) {sp_inner_pairs : DSp} {sp_form_fault : DSp} (C_inner_pairs : Callee P w K mg base k "inner_pairs" P_inner_pairs sp_inner_pairs) (C_form_fault : Callee P w K mg base k "form_fault" P_form_fault sp_form_fault) 
    (F : FunD K "work_fault" "work_fault" (defArgs s_work_fault) (defBody s_work_fault) (defScope s_work_fault) [] [] f fd) (len : ∀ ds G Q E, sp ds G Q E → ds.length = 1)
    (ok : ∀ ds G Q E, sp ds G Q E → (r_work_fault sp_inner_pairs sp_form_fault) { nx := fun _ G' => Q .non G', rt := Q } (startD 5 ds) G) : DFn P w K mg base (k + 1) f fd P_work_fault sp :=
  dfn_of F sc_work_fault len (b_work_fault T C_inner_pairs C_form_fault) ok

theorem k_work_fault {P : Program} {w : World} {K : PySem.W.Frag} {mg : Str → Option Value} {base : Heap} {k : Nat} {f : Addr} {fd : FuncData} {sp : DSp} (T : Tx w K mg) {sp_inner_pairs : DSp} {sp_form_fault : DSp} (C_inner_pairs : Callee P w K mg base k "inner_pairs" P_inner_pairs sp_inner_pairs) (C_form_fault : Callee P w K mg base k "form_fault" P_form_fault sp_form_fault) 
    (F : FunD K "work_fault" "work_fault" (defArgs s_work_fault) (defBody s_work_fault) (defScope s_work_fault) [] [] f fd) (hm : mg "work_fault" = some (.ref f)) (len : ∀ ds G Q E, sp ds G Q E → ds.length = 1)
    (ok : ∀ ds G Q E, sp ds G Q E → (r_work_fault sp_inner_pairs sp_form_fault) { nx := fun _ G' => Q .non G', rt := Q } (startD 5 ds) G) : Callee P w K mg base (k + 1) "work_fault" P_work_fault sp :=
  callee_of F hm (d_work_fault T C_inner_pairs C_form_fault F len ok) (fun _ _ _ _ _ _ us hl => match us, hl with | [_], _ => rfl) (fun _ _ _ _ _ _ us hl => match us, hl with | [_], _ => rfl)

abbrev N_is_work : List Str := ["thing"]
abbrev P_is_work : List Str := ["thing"]

theorem sc_is_work : FnScope N_is_work P_is_work (defScope s_is_work) := ⟨rfl, rfl, rfl, by decide +kernel, rfl, by decide +kernel, by decide +kernel⟩

theorem b_is_work {P : Program} {w : World} {K : PySem.W.Frag} {mg : Str → Option Value} {base : Heap} {k : Nat} {f : Addr} (T : Tx w K mg) {sp_work_fault : DSp} (C_work_fault : Callee P w K mg base k "work_fault" P_work_fault sp_work_fault)  (cdv : Value) (A : Around) (out : List Env) (st : Shared) (H : Hp) (E : XK)
    (hr : Room k (A.deeper (PyProof.Rows.envOfC "is_work" (defScope s_is_work) st.heap.objs.size f cdv))) (hgd : (A.deeper (PyProof.Rows.envOfC "is_work" (defScope s_is_work) st.heap.objs.size f cdv)).guards = some []) :
    DSs (cxOf CX0 P w K mg base N_is_work "is_work" (defScope s_is_work) f cdv A out st H E).nox (defBody s_is_work) (r_is_work sp_work_fault) := by
  have SC := sc_is_work
  have hu := hu_of hr
  have hu64 := hr.units
  have hu70 := hu70_of hr
  exact (ds_one (ds_ret (de_cmp o_isN (dc C_work_fault hr hgd rfl (da_cons (dv 0) da_nil)) de_non (nomark _))))

theorem d_is_work {P : Program} {w : World} {K : PySem.W.Frag} {mg : Str → Option Value} {base : Heap} {k : Nat} {f : Addr} {fd : FuncData} {sp : DSp} (T : Tx w K mg) {sp_work_fault : DSp} (C_work_fault : Callee P w K mg base k "work_fault" P_work_fault sp_work_fault) 
    (F : FunD K "is_work" "is_work" (defArgs s_is_work) (defBody s_is_work) (defScope s_is_work) [] [] f fd) (len : ∀ ds G Q E, sp ds G Q E → ds.length = 1)
    (ok : ∀ ds G Q E, sp ds G Q E → (r_is_work sp_work_fault) { nx := fun _ G' => Q .non G', rt := Q } (startD 1 ds) G) : DFn P w K mg base (k + 1) f fd P_is_work sp :=
  dfn_of F sc_is_work len (b_is_work T C_work_fault) ok

theorem k_is_work {P : Program} {w : World} {K : PySem.W.Frag} {mg : Str → Option Value} {base : Heap} {k : Nat} {f : Addr} {fd : FuncData} {sp : DSp} (T : Tx w K mg) {sp_work_fault : DSp} (C_work_fault : Callee P w K mg base k "work_fault" P_work_fault sp_work_fault) 
    (F : FunD K "is_work" "is_work" (defArgs s_is_work) (defBody s_is_work) (defScope s_is_work) [] [] f fd) (hm : mg "is_work" = some (.ref f)) (len : ∀ ds G Q E, sp ds G Q E → ds.length = 1)
    (ok : ∀ ds G Q E, sp ds G Q E → (r_is_work sp_work_fault) { nx := fun _ G' => Q .non G', rt := Q } (startD 1 ds) G) : Callee P w K mg base (k + 1) "is_work" P_is_work sp :=
  callee_of F hm (d_is_work T C_work_fault F len ok) (fun _ _ _ _ _ _ us hl => match us, hl with | [_], _ => rfl) (fun _ _ _ _ _ _ us hl => match us, hl with | [_], _ => rfl)

abbrev N_require_usable : List Str := ["truth", "word", "at"]
abbrev P_require_usable : List Str := ["truth", "word", "at"]

theorem sc_require_usable : FnScope N_require_usable P_require_usable (defScope s_require_usable) := ⟨rfl, rfl, rfl, by decide +kernel, rfl, by decide +kernel, by decide +kernel⟩

theorem b_require_usable {P : Program} {w : World} {K : PySem.W.Frag} {mg : Str → Option Value} {base : Heap} {k : Nat} {f : Addr} (T : Tx w K mg)    (cdv : Value) (A : Around) (out : List Env) (st : Shared) (H : Hp) (E : XK)
    (hr : Room k (A.deeper (PyProof.Rows.envOfC "require_usable" (defScope s_require_usable) st.heap.objs.size f cdv))) (hgd : (A.deeper (PyProof.Rows.envOfC "require_usable" (defScope s_require_usable) st.heap.objs.size f cdv)).guards = some []) :
    DSs (cxOf CX0 P w K mg base N_require_usable "require_usable" (defScope s_require_usable) f cdv A out st H E).nox (defBody s_require_usable) (r_require_usable) := by
  have SC := sc_require_usable
  have hu := hu_of hr
  have hu64 := hr.units
  have hu70 := hu70_of hr
  exact (ds_one (ds_if (dt_not (dt_tru (dv 0)))
  (ds_one ds_never)
  ds_nil))

theorem d_require_usable {P : Program} {w : World} {K : PySem.W.Frag} {mg : Str → Option Value} {base : Heap} {k : Nat} {f : Addr} {fd : FuncData} {sp : DSp} (T : Tx w K mg)   
    (F : FunD K "require_usable" "require_usable" (defArgs s_require_usable) (defBody s_require_usable) (defScope s_require_usable) [] [] f fd) (len : ∀ ds G Q E, sp ds G Q E → ds.length = 3)
    (ok : ∀ ds G Q E, sp ds G Q E → (r_require_usable) { nx := fun _ G' => Q .non G', rt := Q } (startD 3 ds) G) : DFn P w K mg base (k + 1) f fd P_require_usable sp :=
  dfn_of F sc_require_usable len (b_require_usable T) ok

theorem k_require_usable {P : Program} {w : World} {K : PySem.W.Frag} {mg : Str → Option Value} {base : Heap} {k : Nat} {f : Addr} {fd : FuncData} {sp : DSp} (T : Tx w K mg)   
    (F : FunD K "require_usable" "require_usable" (defArgs s_require_usable) (defBody s_require_usable) (defScope s_require_usable) [] [] f fd) (hm : mg "require_usable" = some (.ref f)) (len : ∀ ds G Q E, sp ds G Q E → ds.length = 3)
    (ok : ∀ ds G Q E, sp ds G Q E → (r_require_usable) { nx := fun _ G' => Q .non G', rt := Q } (startD 3 ds) G) : Callee P w K mg base (k + 1) "require_usable" P_require_usable sp :=
  callee_of F hm (d_require_usable T F len ok) (fun _ _ _ _ _ _ us hl => match us, hl with | [_, _, _], _ => rfl) (fun _ _ _ _ _ _ us hl => match us, hl with | [_, _, _], _ => rfl)

abbrev N_all_pairs : List Str := ["work", "found", "waiting", "path", "part"]
abbrev P_all_pairs : List Str := ["work"]

theorem sc_all_pairs : FnScope N_all_pairs P_all_pairs (defScope s_all_pairs) := ⟨rfl, rfl, rfl, by decide +kernel, rfl, by decide +kernel, by decide +kernel⟩

theorem b_all_pairs {P : Program} {w : World} {K : PySem.W.Frag} {mg : Str → Option Value} {base : Heap} {k : Nat} {f : Addr} (T : Tx w K mg) {sp_inner_pairs : DSp} (C_inner_pairs : Callee P w K mg base k "inner_pairs" P_inner_pairs sp_inner_pairs)  (cdv : Value) (A : Around) (out : List Env) (st : Shared) (H : Hp) (E : XK)
    (hr : Room k (A.deeper (PyProof.Rows.envOfC "all_pairs" (defScope s_all_pairs) st.heap.objs.size f cdv))) (hgd : (A.deeper (PyProof.Rows.envOfC "all_pairs" (defScope s_all_pairs) st.heap.objs.size f cdv)).guards = some []) :
    DSs (cxOf CX0 P w K mg base N_all_pairs "all_pairs" (defScope s_all_pairs) f cdv A out st H E).nox (defBody s_all_pairs) (r_all_pairs sp_inner_pairs) := by
  have SC := sc_all_pairs
  have hu := hu_of hr
  have hu64 := hr.units
  have hu70 := hu70_of hr
  exact (ds_cons (ds_set (i := 1) SC.nd rfl (by first | exact Or.inl rfl | exact Or.inr rfl) (de_lst da_nil))
  (ds_cons (ds_set (i := 2) SC.nd rfl (by first | exact Or.inl rfl | exact Or.inr rfl) (de_lst (da_cons (de_tup (da_cons (de_tup da_nil) (da_cons (dv 0) da_nil))) da_nil)))
  (ds_cons (ds_while PassesOwn.never (dt_cmp o_gt (de_callB c_len rfl T.m_len PySem.boot_len (da_cons (dv 2) da_nil)) de_int (nomark _))
  (ds_cons (ds_asg (de_pop (dv 2)) (dg_tup rfl (dgs_cons (dg_name (i := 3) SC.nd rfl (by first | exact Or.inl rfl | exact Or.inr rfl)) (dgs_cons (dg_name (i := 4) SC.nd rfl (by first | exact Or.inl rfl | exact Or.inr rfl)) dgs_nil))))
  (ds_cons (ds_expr (de_append (dv 1) (de_tup (da_cons (dv 3) (da_cons (dv 4) da_nil)))))
  (ds_one (ds_expr (de_extend (dv 2) (de_frz (de_rev (dc C_inner_pairs hr hgd rfl (da_cons (dv 3) (da_cons (dv 4) da_nil)))))))))))
  (ds_one (ds_ret (de_frz (dv 1)))))))

theorem d_all_pairs {P : Program} {w : World} {K : PySem.W.Frag} {mg : Str → Option Value} {base : Heap} {k : Nat} {f : Addr} {fd : FuncData} {sp : DSp} (T : Tx w K mg) {sp_inner_pairs : DSp} (C_inner_pairs : Callee P w K mg base k "inner_pairs" P_inner_pairs sp_inner_pairs) 
    (F : FunD K "all_pairs" "all_pairs" (defArgs s_all_pairs) (defBody s_all_pairs) (defScope s_all_pairs) [] [] f fd) (len : ∀ ds G Q E, sp ds G Q E → ds.length = 1)
    (ok : ∀ ds G Q E, sp ds G Q E → (r_all_pairs sp_inner_pairs) { nx := fun _ G' => Q .non G', rt := Q } (startD 5 ds) G) : DFn P w K mg base (k + 1) f fd P_all_pairs sp :=
  dfn_of F sc_all_pairs len (b_all_pairs T C_inner_pairs) ok

theorem k_all_pairs {P : Program} {w : World} {K : PySem.W.Frag} {mg : Str → Option Value} {base : Heap} {k : Nat} {f : Addr} {fd : FuncData} {sp : DSp} (T : Tx w K mg) {sp_inner_pairs : DSp} (C_inner_pairs : Callee P w K mg base k "inner_pairs" P_inner_pairs sp_inner_pairs) 
    (F : FunD K "all_pairs" "all_pairs" (defArgs s_all_pairs) (defBody s_all_pairs) (defScope s_all_pairs) [] [] f fd) (hm : mg "all_pairs" = some (.ref f)) (len : ∀ ds G Q E, sp ds G Q E → ds.length = 1)
    (ok : ∀ ds G Q E, sp ds G Q E → (r_all_pairs sp_inner_pairs) { nx := fun _ G' => Q .non G', rt := Q } (startD 5 ds) G) : Callee P w K mg base (k + 1) "all_pairs" P_all_pairs sp :=
  callee_of F hm (d_all_pairs T C_inner_pairs F len ok) (fun _ _ _ _ _ _ us hl => match us, hl with | [_], _ => rfl) (fun _ _ _ _ _ _ us hl => match us, hl with | [_], _ => rfl)

abbrev N_works_along : List Str := ["work", "path", "found", "k", "inner"]
abbrev P_works_along : List Str := ["work", "path"]

theorem sc_works_along : FnScope N_works_along P_works_along (defScope s_works_along) := ⟨rfl, rfl, rfl, by decide +kernel, rfl, by decide +kernel, by decide +kernel⟩

theorem b_works_along {P : Program} {w : World} {K : PySem.W.Frag} {mg : Str → Option Value} {base : Heap} {k : Nat} {f : Addr} (T : Tx w K mg) {sp_require_usable : DSp} {sp_is_number : DSp} {sp_inner_works : DSp} (C_require_usable : Callee P w K mg base k "require_usable" P_require_usable sp_require_usable) (C_is_number : Callee P w K mg base k "is_number" P_is_number sp_is_number) (C_inner_works : Callee P w K mg base k "inner_works" P_inner_works sp_inner_works)  (cdv : Value) (A : Around) (out : List Env) (st : Shared) (H : Hp) (E : XK)
    (hr : Room k (A.deeper (PyProof.Rows.envOfC "works_along" (defScope s_works_along) st.heap.objs.size f cdv))) (hgd : (A.deeper (PyProof.Rows.envOfC "works_along" (defScope s_works_along) st.heap.objs.size f cdv)).guards = some []) :
    DSs (cxOf CX0 P w K mg base N_works_along "works_along" (defScope s_works_along) f cdv A out st H E).nox (defBody s_works_along) (r_works_along sp_require_usable sp_is_number sp_inner_works) := by
  have SC := sc_works_along
  have hu := hu_of hr
  have hu64 := hr.units
  have hu70 := hu70_of hr
  exact (ds_cons (ds_expr (dc C_require_usable hr hgd rfl (da_cons (de_isi (T := "tuple") (by decide) rfl T.m_isinstance rfl T.m_tuple (by decide +kernel) (dv 1)) (da_cons de_str (da_cons (de_neg de_int) da_nil)))))
  (ds_cons (ds_set (i := 2) SC.nd rfl (by first | exact Or.inl rfl | exact Or.inr rfl) (de_lst (da_cons (dv 0) da_nil)))
  (ds_cons (ds_for PassesOwn.never rfl (di_seq (dv 1)) (dg_name (i := 3) SC.nd rfl (by first | exact Or.inl rfl | exact Or.inr rfl))
  (ds_cons (ds_set (i := 4) SC.nd rfl (by first | exact Or.inl rfl | exact Or.inr rfl) (dc C_inner_works hr hgd rfl (da_cons (de_ix (dv 2) (de_neg de_int)) da_nil)))
  (ds_cons (ds_expr (dc C_require_usable hr hgd rfl (da_cons (de_and (dc C_is_number hr hgd rfl (da_cons (dv 3) da_nil)) (de_one (de_cmp o_lt (dv 3) (de_callB c_len rfl T.m_len PySem.boot_len (da_cons (dv 4) da_nil)) (nomark _)))) (da_cons de_str (da_cons (de_neg de_int) da_nil)))))
  (ds_one (ds_expr (de_append (dv 2) (de_ix (dv 4) (dv 3))))))))
  (ds_one (ds_ret (de_frz (dv 2)))))))

theorem d_works_along {P : Program} {w : World} {K : PySem.W.Frag} {mg : Str → Option Value} {base : Heap} {k : Nat} {f : Addr} {fd : FuncData} {sp : DSp} (T : Tx w K mg) {sp_require_usable : DSp} {sp_is_number : DSp} {sp_inner_works : DSp} (C_require_usable : Callee P w K mg base k "require_usable" P_require_usable sp_require_usable) (C_is_number : Callee P w K mg base k "is_number" P_is_number sp_is_number) (C_inner_works : Callee P w K mg base k "inner_works" P_inner_works sp_inner_works) 
    (F : FunD K "works_along" "works_along" (defArgs s_works_along) (defBody s_works_along) (defScope s_works_along) [] [] f fd) (len : ∀ ds G Q E, sp ds G Q E → ds.length = 2)
    (ok : ∀ ds G Q E, sp ds G Q E → (r_works_along sp_require_usable sp_is_number sp_inner_works) { nx := fun _ G' => Q .non G', rt := Q } (startD 5 ds) G) : DFn P w K mg base (k + 1) f fd P_works_along sp :=
  dfn_of F sc_works_along len (b_works_along T C_require_usable C_is_number C_inner_works) ok

theorem k_works_along {P : Program} {w : World} {K : PySem.W.Frag} {mg : Str → Option Value} {base : Heap} {k : Nat} {f : Addr} {fd : FuncData} {sp : DSp} (T : Tx w K mg) {sp_require_usable : DSp} {sp_is_number : DSp} {sp_inner_works : DSp} (C_require_usable : Callee P w K mg base k "require_usable" P_require_usable sp_require_usable) (C_is_number : Callee P w K mg base k "is_number" P_is_number sp_is_number) (C_inner_works : Callee P w K mg base k "inner_works" P_inner_works sp_inner_works) 
    (F : FunD K "works_along" "works_along" (defArgs s_works_along) (defBody s_works_along) (defScope s_works_along) [] [] f fd) (hm : mg "works_along" = some (.ref f)) (len : ∀ ds G Q E, sp ds G Q E → ds.length = 2)
    (ok : ∀ ds G Q E, sp ds G Q E → (r_works_along sp_require_usable sp_is_number sp_inner_works) { nx := fun _ G' => Q .non G', rt := Q } (startD 5 ds) G) : Callee P w K mg base (k + 1) "works_along" P_works_along sp :=
  callee_of F hm (d_works_along T C_require_usable C_is_number C_inner_works F len ok) (fun _ _ _ _ _ _ us hl => match us, hl with | [_, _], _ => rfl) (fun _ _ _ _ _ _ us hl => match us, hl with | [_, _], _ => rfl)

abbrev N_put_inner : List Str := ["work", "k", "late", "word"]
abbrev P_put_inner : List Str := ["work", "k", "late"]

theorem sc_put_inner : FnScope N_put_inner P_put_inner (defScope s_put_inner) := ⟨rfl, rfl, rfl, by decide +kernel, rfl, by decide +kernel, by decide +kernel⟩

theorem b_put_inner {P : Program} {w : World} {K : PySem.W.Frag} {mg : Str → Option Value} {base : Heap} {k : Nat} {f : Addr} (T : Tx w K mg)    (cdv : Value) (A : Around) (out : List Env) (st : Shared) (H : Hp) (E : XK)
    (hr : Room k (A.deeper (PyProof.Rows.envOfC "put_inner" (defScope s_put_inner) st.heap.objs.size f cdv))) (hgd : (A.deeper (PyProof.Rows.envOfC "put_inner" (defScope s_put_inner) st.heap.objs.size f cdv)).guards = some []) :
    DSs (cxOf CX0 P w K mg base N_put_inner "put_inner" (defScope s_put_inner) f cdv A out st H E).nox (defBody s_put_inner) (r_put_inner) := by
  have SC := sc_put_inner
  have hu := hu_of hr
  have hu64 := hr.units
  have hu70 := hu70_of hr
  exact (ds_cons (ds_set (i := 3) SC.nd rfl (by first | exact Or.inl rfl | exact Or.inr rfl) (de_ix (dv 0) de_int))
  (ds_cons (ds_if (dt_cmp (o_eq hu64) (dv 3) de_str (nomark _))
  (ds_one (ds_ret (de_tup (da_star (de_slice (dv 0) do_none (do_some de_int)) (da_cons (dv 2) da_nil)))))
  ds_nil)
  (ds_cons (ds_if (dt_cmp (o_eq hu64) (dv 3) de_str (nomark _))
  (ds_one (ds_ret (de_if (dt_cmp (o_eq hu64) (dv 1) de_int (nomark _)) (de_tup (da_cons (dv 3) (da_cons (dv 2) (da_cons (de_ix (dv 0) de_int) da_nil)))) (de_tup (da_cons (dv 3) (da_cons (de_ix (dv 0) de_int) (da_cons (dv 2) da_nil)))))))
  ds_nil)
  (ds_one (ds_ret (de_tup (da_cons (dv 3) (da_cons (de_tup (da_star (de_slice (de_ix (dv 0) de_int) do_none (do_some (dv 1))) (da_cons (dv 2) (da_star (de_slice (de_ix (dv 0) de_int) (do_some (de_op o_add (dv 1) de_int)) do_none) da_nil)))) da_nil))))))))

theorem d_put_inner {P : Program} {w : World} {K : PySem.W.Frag} {mg : Str → Option Value} {base : Heap} {k : Nat} {f : Addr} {fd : FuncData} {sp : DSp} (T : Tx w K mg)   
    (F : FunD K "put_inner" "put_inner" (defArgs s_put_inner) (defBody s_put_inner) (defScope s_put_inner) [] [] f fd) (len : ∀ ds G Q E, sp ds G Q E → ds.length = 3)
    (ok : ∀ ds G Q E, sp ds G Q E → (r_put_inner) { nx := fun _ G' => Q .non G', rt := Q } (startD 4 ds) G) : DFn P w K mg base (k + 1) f fd P_put_inner sp :=
  dfn_of F sc_put_inner len (b_put_inner T) ok

theorem k_put_inner {P : Program} {w : World} {K : PySem.W.Frag} {mg : Str → Option Value} {base : Heap} {k : Nat} {f : Addr} {fd : FuncData} {sp : DSp} (T : Tx w K mg)   
    (F : FunD K "put_inner" "put_inner" (defArgs s_put_inner) (defBody s_put_inner) (defScope s_put_inner) [] [] f fd) (hm : mg "put_inner" = some (.ref f)) (len : ∀ ds G Q E, sp ds G Q E → ds.length = 3)
    (ok : ∀ ds G Q E, sp ds G Q E → (r_put_inner) { nx := fun _ G' => Q .non G', rt := Q } (startD 4 ds) G) : Callee P w K mg base (k + 1) "put_inner" P_put_inner sp :=
  callee_of F hm (d_put_inner T F len ok) (fun _ _ _ _ _ _ us hl => match us, hl with | [_, _, _], _ => rfl) (fun _ _ _ _ _ _ us hl => match us, hl with | [_, _, _], _ => rfl)

abbrev N_put_along : List Str := ["around", "path", "late", "work", "k"]
abbrev P_put_along : List Str := ["around", "path", "late"]

theorem sc_put_along : FnScope N_put_along P_put_along (defScope s_put_along) := ⟨rfl, rfl, rfl, by decide +kernel, rfl, by decide +kernel, by decide +kernel⟩

theorem b_put_along {P : Program} {w : World} {K : PySem.W.Frag} {mg : Str → Option Value} {base : Heap} {k : Nat} {f : Addr} (T : Tx w K mg) {sp_put_inner : DSp} (C_put_inner : Callee P w K mg base k "put_inner" P_put_inner sp_put_inner)  (cdv : Value) (A : Around) (out : List Env) (st : Shared) (H : Hp) (E : XK)
    (hr : Room k (A.deeper (PyProof.Rows.envOfC "put_along" (defScope s_put_along) st.heap.objs.size f cdv))) (hgd : (A.deeper (PyProof.Rows.envOfC "put_along" (defScope s_put_along) st.heap.objs.size f cdv)).guards = some []) :
    DSs (cxOf CX0 P w K mg base N_put_along "put_along" (defScope s_put_along) f cdv A out st H E).nox (defBody s_put_along) (r_put_along sp_put_inner) := by
  have SC := sc_put_along
  have hu := hu_of hr
  have hu64 := hr.units
  have hu70 := hu70_of hr
  exact (ds_cons (ds_for PassesOwn.never rfl (di_zipM rfl T.m_zip (da_cons (de_frz (de_rev (dv 0))) (da_cons (de_rev (dv 1)) da_nil))) (dg_tup rfl (dgs_cons (dg_name (i := 3) SC.nd rfl (by first | exact Or.inl rfl | exact Or.inr rfl)) (dgs_cons (dg_name (i := 4) SC.nd rfl (by first | exact Or.inl rfl | exact Or.inr rfl)) dgs_nil)))
  (ds_one (ds_set (i := 2) SC.nd rfl (by first | exact Or.inl rfl | exact Or.inr rfl) (dc C_put_inner hr hgd rfl (da_cons (dv 3) (da_cons (dv 4) (da_cons (dv 2) da_nil)))))))
  (ds_one (ds_ret (dv 2))))

theorem d_put_along {P : Program} {w : World} {K : PySem.W.Frag} {mg : Str → Option Value} {base : Heap} {k : Nat} {f : Addr} {fd : FuncData} {sp : DSp} (T : Tx w K mg) {sp_put_inner : DSp} (C_put_inner : Callee P w K mg base k "put_inner" P_put_inner sp_put_inner) 
    (F : FunD K "put_along" "put_along" (defArgs s_put_along) (defBody s_put_along) (defScope s_put_along) [] [] f fd) (len : ∀ ds G Q E, sp ds G Q E → ds.length = 3)
    (ok : ∀ ds G Q E, sp ds G Q E → (r_put_along sp_put_inner) { nx := fun _ G' => Q .non G', rt := Q } (startD 5 ds) G) : DFn P w K mg base (k + 1) f fd P_put_along sp :=
  dfn_of F sc_put_along len (b_put_along T C_put_inner) ok

theorem k_put_along {P : Program} {w : World} {K : PySem.W.Frag} {mg : Str → Option Value} {base : Heap} {k : Nat} {f : Addr} {fd : FuncData} {sp : DSp} (T : Tx w K mg) {sp_put_inner : DSp} (C_put_inner : Callee P w K mg base k "put_inner" P_put_inner sp_put_inner) 
    (F : FunD K "put_along" "put_along" (defArgs s_put_along) (defBody s_put_along) (defScope s_put_along) [] [] f fd) (hm : mg "put_along" = some (.ref f)) (len : ∀ ds G Q E, sp ds G Q E → ds.length = 3)
    (ok : ∀ ds G Q E, sp ds G Q E → (r_put_along sp_put_inner) { nx := fun _ G' => Q .non G', rt := Q } (startD 5 ds) G) : Callee P w K mg base (k + 1) "put_along" P_put_along sp :=
  callee_of F hm (d_put_along T C_put_inner F len ok) (fun _ _ _ _ _ _ us hl => match us, hl with | [_, _, _], _ => rfl) (fun _ _ _ _ _ _ us hl => match us, hl with | [_, _, _], _ => rfl)

abbrev N_parts_of : List Str := ["work"]
abbrev P_parts_of : List Str := ["work"]

theorem sc_parts_of : FnScope N_parts_of P_parts_of (defScope s_parts_of) := ⟨rfl, rfl, rfl, by decide +kernel, rfl, by decide +kernel, by decide +kernel⟩

theorem b_parts_of {P : Program} {w : World} {K : PySem.W.Frag} {mg : Str → Option Value} {base : Heap} {k : Nat} {f : Addr} (T : Tx w K mg) {sp_all_pairs : DSp} (C_all_pairs : Callee P w K mg base k "all_pairs" P_all_pairs sp_all_pairs)  (cdv : Value) (A : Around) (out : List Env) (st : Shared) (H : Hp) (E : XK)
    (hr : Room k (A.deeper (PyProof.Rows.envOfC "parts_of" (defScope s_parts_of) st.heap.objs.size f cdv))) (hgd : (A.deeper (PyProof.Rows.envOfC "parts_of" (defScope s_parts_of) st.heap.objs.size f cdv)).guards = some []) :
    DSs (cxOf CX0 P w K mg base N_parts_of "parts_of" (defScope s_parts_of) f cdv A out st H E).nox (defBody s_parts_of) (r_parts_of sp_all_pairs) := by
  have SC := sc_parts_of
  have hu := hu_of hr
  have hu64 := hr.units
  have hu70 := hu70_of hr
  exact (ds_one (ds_ret (de_callTy c_tuple rfl T.m_tuple (by decide +kernel) (da_cons (dc C_all_pairs hr hgd rfl (da_cons (dv 0) da_nil)) da_nil))))

theorem d_parts_of {P : Program} {w : World} {K : PySem.W.Frag} {mg : Str → Option Value} {base : Heap} {k : Nat} {f : Addr} {fd : FuncData} {sp : DSp} (T : Tx w K mg) {sp_all_pairs : DSp} (C_all_pairs : Callee P w K mg base k "all_pairs" P_all_pairs sp_all_pairs) 
    (F : FunD K "parts_of" "parts_of" (defArgs s_parts_of) (defBody s_parts_of) (defScope s_parts_of) [] [] f fd) (len : ∀ ds G Q E, sp ds G Q E → ds.length = 1)
    (ok : ∀ ds G Q E, sp ds G Q E → (r_parts_of sp_all_pairs) { nx := fun _ G' => Q .non G', rt := Q } (startD 1 ds) G) : DFn P w K mg base (k + 1) f fd P_parts_of sp :=
  dfn_of F sc_parts_of len (b_parts_of T C_all_pairs) ok

theorem k_parts_of {P : Program} {w : World} {K : PySem.W.Frag} {mg : Str → Option Value} {base : Heap} {k : Nat} {f : Addr} {fd : FuncData} {sp : DSp} (T : Tx w K mg) {sp_all_pairs : DSp} (C_all_pairs : Callee P w K mg base k "all_pairs" P_all_pairs sp_all_pairs) 
    (F : FunD K "parts_of" "parts_of" (defArgs s_parts_of) (defBody s_parts_of) (defScope s_parts_of) [] [] f fd) (hm : mg "parts_of" = some (.ref f)) (len : ∀ ds G Q E, sp ds G Q E → ds.length = 1)
    (ok : ∀ ds G Q E, sp ds G Q E → (r_parts_of sp_all_pairs) { nx := fun _ G' => Q .non G', rt := Q } (startD 1 ds) G) : Callee P w K mg base (k + 1) "parts_of" P_parts_of sp :=
  callee_of F hm (d_parts_of T C_all_pairs F len ok) (fun _ _ _ _ _ _ us hl => match us, hl with | [_], _ => rfl) (fun _ _ _ _ _ _ us hl => match us, hl with | [_], _ => rfl)

abbrev N_part_at : List Str := ["work", "path"]
abbrev P_part_at : List Str := ["work", "path"]

theorem sc_part_at : FnScope N_part_at P_part_at (defScope s_part_at) := ⟨rfl, rfl, rfl, by decide +kernel, rfl, by decide +kernel, by decide +kernel⟩

theorem b_part_at {P : Program} {w : World} {K : PySem.W.Frag} {mg : Str → Option Value} {base : Heap} {k : Nat} {f : Addr} (T : Tx w K mg) {sp_works_along : DSp} (C_works_along : Callee P w K mg base k "works_along" P_works_along sp_works_along)  (cdv : Value) (A : Around) (out : List Env) (st : Shared) (H : Hp) (E : XK)
    (hr : Room k (A.deeper (PyProof.Rows.envOfC "part_at" (defScope s_part_at) st.heap.objs.size f cdv))) (hgd : (A.deeper (PyProof.Rows.envOfC "part_at" (defScope s_part_at) st.heap.objs.size f cdv)).guards = some []) :
    DSs (cxOf CX0 P w K mg base N_part_at "part_at" (defScope s_part_at) f cdv A out st H E).nox (defBody s_part_at) (r_part_at sp_works_along) := by
  have SC := sc_part_at
  have hu := hu_of hr
  have hu64 := hr.units
  have hu70 := hu70_of hr
  exact (ds_one (ds_ret (de_ix (dc C_works_along hr hgd rfl (da_cons (dv 0) (da_cons (dv 1) da_nil))) (de_neg de_int))))

theorem d_part_at {P : Program} {w : World} {K : PySem.W.Frag} {mg : Str → Option Value} {base : Heap} {k : Nat} {f : Addr} {fd : FuncData} {sp : DSp} (T : Tx w K mg) {sp_works_along : DSp} (C_works_along : Callee P w K mg base k "works_along" P_works_along sp_works_along) 
    (F : FunD K "part_at" "part_at" (defArgs s_part_at) (defBody s_part_at) (defScope s_part_at) [] [] f fd) (len : ∀ ds G Q E, sp ds G Q E → ds.length = 2)
    (ok : ∀ ds G Q E, sp ds G Q E → (r_part_at sp_works_along) { nx := fun _ G' => Q .non G', rt := Q } (startD 2 ds) G) : DFn P w K mg base (k + 1) f fd P_part_at sp :=
  dfn_of F sc_part_at len (b_part_at T C_works_along) ok

theorem k_part_at {P : Program} {w : World} {K : PySem.W.Frag} {mg : Str → Option Value} {base : Heap} {k : Nat} {f : Addr} {fd : FuncData} {sp : DSp} (T : Tx w K mg) {sp_works_along : DSp} (C_works_along : Callee P w K mg base k "works_along" P_works_along sp_works_along) 
    (F : FunD K "part_at" "part_at" (defArgs s_part_at) (defBody s_part_at) (defScope s_part_at) [] [] f fd) (hm : mg "part_at" = some (.ref f)) (len : ∀ ds G Q E, sp ds G Q E → ds.length = 2)
    (ok : ∀ ds G Q E, sp ds G Q E → (r_part_at sp_works_along) { nx := fun _ G' => Q .non G', rt := Q } (startD 2 ds) G) : Callee P w K mg base (k + 1) "part_at" P_part_at sp :=
  callee_of F hm (d_part_at T C_works_along F len ok) (fun _ _ _ _ _ _ us hl => match us, hl with | [_, _], _ => rfl) (fun _ _ _ _ _ _ us hl => match us, hl with | [_, _], _ => rfl)

abbrev N_with_part : List Str := ["work", "path", "other", "found"]
abbrev P_with_part : List Str := ["work", "path", "other"]

theorem sc_with_part : FnScope N_with_part P_with_part (defScope s_with_part) := ⟨rfl, rfl, rfl, by decide +kernel, rfl, by decide +kernel, by decide +kernel⟩

theorem b_with_part {P : Program} {w : World} {K : PySem.W.Frag} {mg : Str → Option Value} {base : Heap} {k : Nat} {f : Addr} (T : Tx w K mg) {sp_put_along : DSp} {sp_require_usable : DSp} {sp_is_work : DSp} {sp_works_along : DSp} (C_put_along : Callee P w K mg base k "put_along" P_put_along sp_put_along) (C_require_usable : Callee P w K mg base k "require_usable" P_require_usable sp_require_usable) (C_is_work : Callee P w K mg base k "is_work" P_is_work sp_is_work) (C_works_along : Callee P w K mg base k "works_along" P_works_along sp_works_along)  (cdv : Value) (A : Around) (out : List Env) (st : Shared) (H : Hp) (E : XK)
    (hr : Room k (A.deeper (PyProof.Rows.envOfC "with_part" (defScope s_with_part) st.heap.objs.size f cdv))) (hgd : (A.deeper (PyProof.Rows.envOfC "with_part" (defScope s_with_part) st.heap.objs.size f cdv)).guards = some []) :
    DSs (cxOf CX0 P w K mg base N_with_part "with_part" (defScope s_with_part) f cdv A out st H E).nox (defBody s_with_part) (r_with_part sp_put_along sp_require_usable sp_is_work sp_works_along) := by
  have SC := sc_with_part
  have hu := hu_of hr
  have hu64 := hr.units
  have hu70 := hu70_of hr
  exact (ds_cons (ds_set (i := 3) SC.nd rfl (by first | exact Or.inl rfl | exact Or.inr rfl) (dc C_works_along hr hgd rfl (da_cons (dv 0) (da_cons (dv 1) da_nil))))
  (ds_cons (ds_expr (dc C_require_usable hr hgd rfl (da_cons (dc C_is_work hr hgd rfl (da_cons (dv 2) da_nil)) (da_cons de_str (da_cons (de_neg de_int) da_nil)))))
  (ds_one (ds_ret (dc C_put_along hr hgd rfl (da_cons (de_frz (de_slice (dv 3) do_none (do_some (de_neg de_int)))) (da_cons (dv 1) (da_cons (dv 2) da_nil))))))))

theorem d_with_part {P : Program} {w : World} {K : PySem.W.Frag} {mg : Str → Option Value} {base : Heap} {k : Nat} {f : Addr} {fd : FuncData} {sp : DSp} (T : Tx w K mg) {sp_put_along : DSp} {sp_require_usable : DSp} {sp_is_work : DSp} {sp_works_along : DSp} (C_put_along : Callee P w K mg base k "put_along" P_put_along sp_put_along) (C_require_usable : Callee P w K mg base k "require_usable" P_require_usable sp_require_usable) (C_is_work : Callee P w K mg base k "is_work" P_is_work sp_is_work) (C_works_along : Callee P w K mg base k "works_along" P_works_along sp_works_along) 
    (F : FunD K "with_part" "with_part" (defArgs s_with_part) (defBody s_with_part) (defScope s_with_part) [] [] f fd) (len : ∀ ds G Q E, sp ds G Q E → ds.length = 3)
    (ok : ∀ ds G Q E, sp ds G Q E → (r_with_part sp_put_along sp_require_usable sp_is_work sp_works_along) { nx := fun _ G' => Q .non G', rt := Q } (startD 4 ds) G) : DFn P w K mg base (k + 1) f fd P_with_part sp :=
  dfn_of F sc_with_part len (b_with_part T C_put_along C_require_usable C_is_work C_works_along) ok

theorem k_with_part {P : Program} {w : World} {K : PySem.W.Frag} {mg : Str → Option Value} {base : Heap} {k : Nat} {f : Addr} {fd : FuncData} {sp : DSp} (T : Tx w K mg) {sp_put_along : DSp} {sp_require_usable : DSp} {sp_is_work : DSp} {sp_works_along : DSp} (C_put_along : Callee P w K mg base k "put_along" P_put_along sp_put_along) (C_require_usable : Callee P w K mg base k "require_usable" P_require_usable sp_require_usable) (C_is_work : Callee P w K mg base k "is_work" P_is_work sp_is_work) (C_works_along : Callee P w K mg base k "works_along" P_works_along sp_works_along) 
    (F : FunD K "with_part" "with_part" (defArgs s_with_part) (defBody s_with_part) (defScope s_with_part) [] [] f fd) (hm : mg "with_part" = some (.ref f)) (len : ∀ ds G Q E, sp ds G Q E → ds.length = 3)
    (ok : ∀ ds G Q E, sp ds G Q E → (r_with_part sp_put_along sp_require_usable sp_is_work sp_works_along) { nx := fun _ G' => Q .non G', rt := Q } (startD 4 ds) G) : Callee P w K mg base (k + 1) "with_part" P_with_part sp :=
  callee_of F hm (d_with_part T C_put_along C_require_usable C_is_work C_works_along F len ok) (fun _ _ _ _ _ _ us hl => match us, hl with | [_, _, _], _ => rfl) (fun _ _ _ _ _ _ us hl => match us, hl with | [_, _, _], _ => rfl)

abbrev N_size_of : List Str := ["work"]
abbrev P_size_of : List Str := ["work"]

theorem sc_size_of : FnScope N_size_of P_size_of (defScope s_size_of) := ⟨rfl, rfl, rfl, by decide +kernel, rfl, by decide +kernel, by decide +kernel⟩

theorem b_size_of {P : Program} {w : World} {K : PySem.W.Frag} {mg : Str → Option Value} {base : Heap} {k : Nat} {f : Addr} (T : Tx w K mg) {sp_all_pairs : DSp} (C_all_pairs : Callee P w K mg base k "all_pairs" P_all_pairs sp_all_pairs)  (cdv : Value) (A : Around) (out : List Env) (st : Shared) (H : Hp) (E : XK)
    (hr : Room k (A.deeper (PyProof.Rows.envOfC "size_of" (defScope s_size_of) st.heap.objs.size f cdv))) (hgd : (A.deeper (PyProof.Rows.envOfC "size_of" (defScope s_size_of) st.heap.objs.size f cdv)).guards = some []) :
    DSs (cxOf CX0 P w K mg base N_size_of "size_of" (defScope s_size_of) f cdv A out st H E).nox (defBody s_size_of) (r_size_of sp_all_pairs) := by
  have SC := sc_size_of
  have hu := hu_of hr
  have hu64 := hr.units
  have hu70 := hu70_of hr
  exact (ds_one (ds_ret (de_callB c_len rfl T.m_len PySem.boot_len (da_cons (dc C_all_pairs hr hgd rfl (da_cons (dv 0) da_nil)) da_nil))))

theorem d_size_of {P : Program} {w : World} {K : PySem.W.Frag} {mg : Str → Option Value} {base : Heap} {k : Nat} {f : Addr} {fd : FuncData} {sp : DSp} (T : Tx w K mg) {sp_all_pairs : DSp} (C_all_pairs : Callee P w K mg base k "all_pairs" P_all_pairs sp_all_pairs) 
    (F : FunD K "size_of" "size_of" (defArgs s_size_of) (defBody s_size_of) (defScope s_size_of) [] [] f fd) (len : ∀ ds G Q E, sp ds G Q E → ds.length = 1)
    (ok : ∀ ds G Q E, sp ds G Q E → (r_size_of sp_all_pairs) { nx := fun _ G' => Q .non G', rt := Q } (startD 1 ds) G) : DFn P w K mg base (k + 1) f fd P_size_of sp :=
  dfn_of F sc_size_of len (b_size_of T C_all_pairs) ok

theorem k_size_of {P : Program} {w : World} {K : PySem.W.Frag} {mg : Str → Option Value} {base : Heap} {k : Nat} {f : Addr} {fd : FuncData} {sp : DSp} (T : Tx w K mg) {sp_all_pairs : DSp} (C_all_pairs : Callee P w K mg base k "all_pairs" P_all_pairs sp_all_pairs) 
    (F : FunD K "size_of" "size_of" (defArgs s_size_of) (defBody s_size_of) (defScope s_size_of) [] [] f fd) (hm : mg "size_of" = some (.ref f)) (len : ∀ ds G Q E, sp ds G Q E → ds.length = 1)
    (ok : ∀ ds G Q E, sp ds G Q E → (r_size_of sp_all_pairs) { nx := fun _ G' => Q .non G', rt := Q } (startD 1 ds) G) : Callee P w K mg base (k + 1) "size_of" P_size_of sp :=
  callee_of F hm (d_size_of T C_all_pairs F len ok) (fun _ _ _ _ _ _ us hl => match us, hl with | [_], _ => rfl) (fun _ _ _ _ _ _ us hl => match us, hl with | [_], _ => rfl)

abbrev N_depth_of : List Str := ["work", "path", "part"]
abbrev P_depth_of : List Str := ["work"]

theorem sc_depth_of : FnScope N_depth_of P_depth_of (defScope s_depth_of) := ⟨rfl, rfl, rfl, by decide +kernel, rfl, by decide +kernel, by decide +kernel⟩

theorem b_depth_of {P : Program} {w : World} {K : PySem.W.Frag} {mg : Str → Option Value} {base : Heap} {k : Nat} {f : Addr} (T : Tx w K mg) {sp_all_pairs : DSp} (C_all_pairs : Callee P w K mg base k "all_pairs" P_all_pairs sp_all_pairs)  (cdv : Value) (A : Around) (out : List Env) (st : Shared) (H : Hp) (E : XK)
    (hr : Room k (A.deeper (PyProof.Rows.envOfC "depth_of" (defScope s_depth_of) st.heap.objs.size f cdv))) (hgd : (A.deeper (PyProof.Rows.envOfC "depth_of" (defScope s_depth_of) st.heap.objs.size f cdv)).guards = some []) :
    DSs (cxOf CX0 P w K mg base N_depth_of "depth_of" (defScope s_depth_of) f cdv A out st H E).nox (defBody s_depth_of) (r_depth_of sp_all_pairs) := by
  have SC := sc_depth_of
  have hu := hu_of hr
  have hu64 := hr.units
  have hu70 := hu70_of hr
  exact (ds_one (ds_ret (de_op o_add (de_callB (c_max rfl) rfl T.m_max (by decide +kernel) (da_cons (de_frz (de_lc (own := [("path", 1), ("part", 2)]) (ct := (.tup [1, 2])) rfl SC.nd (di_seq (dc C_all_pairs hr hgd rfl (da_cons (dv 0) da_nil))) (blkOk_by (by show blkC N_depth_of (defScope s_depth_of) _ _ = true; decide +kernel)) (by decide) (fun _ _ _ _ _ => pg_tup rfl (pgs_cons (pg_name (i := 1) SC.nd rfl (Or.inl rfl)) (pgs_cons (pg_name (i := 2) SC.nd rfl (Or.inl rfl)) pgs_nil))) (fun _ _ _ _ _ => dts_nil) (fun _ _ _ _ _ => (de_callB c_len rfl T.m_len PySem.boot_len (da_cons (dv 1) da_nil))))) da_nil)) de_int)))

theorem d_depth_of {P : Program} {w : World} {K : PySem.W.Frag} {mg : Str → Option Value} {base : Heap} {k : Nat} {f : Addr} {fd : FuncData} {sp : DSp} (T : Tx w K mg) {sp_all_pairs : DSp} (C_all_pairs : Callee P w K mg base k "all_pairs" P_all_pairs sp_all_pairs) 
    (F : FunD K "depth_of" "depth_of" (defArgs s_depth_of) (defBody s_depth_of) (defScope s_depth_of) [] [] f fd) (len : ∀ ds G Q E, sp ds G Q E → ds.length = 1)
    (ok : ∀ ds G Q E, sp ds G Q E → (r_depth_of sp_all_pairs) { nx := fun _ G' => Q .non G', rt := Q } (startD 3 ds) G) : DFn P w K mg base (k + 1) f fd P_depth_of sp :=
  dfn_of F sc_depth_of len (b_depth_of T C_all_pairs) ok

theorem k_depth_of {P : Program} {w : World} {K : PySem.W.Frag} {mg : Str → Option Value} {base : Heap} {k : Nat} {f : Addr} {fd : FuncData} {sp : DSp} (T : Tx w K mg) {sp_all_pairs : DSp} (C_all_pairs : Callee P w K mg base k "all_pairs" P_all_pairs sp_all_pairs) 
    (F : FunD K "depth_of" "depth_of" (defArgs s_depth_of) (defBody s_depth_of) (defScope s_depth_of) [] [] f fd) (hm : mg "depth_of" = some (.ref f)) (len : ∀ ds G Q E, sp ds G Q E → ds.length = 1)
    (ok : ∀ ds G Q E, sp ds G Q E → (r_depth_of sp_all_pairs) { nx := fun _ G' => Q .non G', rt := Q } (startD 3 ds) G) : Callee P w K mg base (k + 1) "depth_of" P_depth_of sp :=
  callee_of F hm (d_depth_of T C_all_pairs F len ok) (fun _ _ _ _ _ _ us hl => match us, hl with | [_], _ => rfl) (fun _ _ _ _ _ _ us hl => match us, hl with | [_], _ => rfl)

abbrev N_loops_of : List Str := ["work", "path", "part"]
abbrev P_loops_of : List Str := ["work"]

theorem sc_loops_of : FnScope N_loops_of P_loops_of (defScope s_loops_of) := ⟨rfl, rfl, rfl, by decide +kernel, rfl, by decide +kernel, by decide +kernel⟩

theorem b_loops_of {P : Program} {w : World} {K : PySem.W.Frag} {mg : Str → Option Value} {base : Heap} {k : Nat} {f : Addr} (T : Tx w K mg) {sp_all_pairs : DSp} (C_all_pairs : Callee P w K mg base k "all_pairs" P_all_pairs sp_all_pairs)  (cdv : Value) (A : Around) (out : List Env) (st : Shared) (H : Hp) (E : XK)
    (hr : Room k (A.deeper (PyProof.Rows.envOfC "loops_of" (defScope s_loops_of) st.heap.objs.size f cdv))) (hgd : (A.deeper (PyProof.Rows.envOfC "loops_of" (defScope s_loops_of) st.heap.objs.size f cdv)).guards = some []) :
    DSs (cxOf CX0 P w K mg base N_loops_of "loops_of" (defScope s_loops_of) f cdv A out st H E).nox (defBody s_loops_of) (r_loops_of sp_all_pairs) := by
  have SC := sc_loops_of
  have hu := hu_of hr
  have hu64 := hr.units
  have hu70 := hu70_of hr
  exact (ds_one (ds_ret (de_callTy c_tuple rfl T.m_tuple (by decide +kernel) (da_cons (de_frz (de_lc (own := [("path", 1), ("part", 2)]) (ct := (.tup [1, 2])) rfl SC.nd (di_seq (dc C_all_pairs hr hgd rfl (da_cons (dv 0) da_nil))) (blkOk_by (by show blkC N_loops_of (defScope s_loops_of) _ _ = true; decide +kernel)) (by decide) (fun _ _ _ _ _ => pg_tup rfl (pgs_cons (pg_name (i := 1) SC.nd rfl (Or.inl rfl)) (pgs_cons (pg_name (i := 2) SC.nd rfl (Or.inl rfl)) pgs_nil))) (fun _ _ _ _ _ => (dts_one (dt_cmp o_in (de_ix (dv 2) de_int) (de_glob rfl T.c_COUNTED) rfl))) (fun _ _ _ _ _ => (dv 1)))) da_nil))))

theorem d_loops_of {P : Program} {w : World} {K : PySem.W.Frag} {mg : Str → Option Value} {base : Heap} {k : Nat} {f : Addr} {fd : FuncData} {sp : DSp} (T : Tx w K mg) {sp_all_pairs : DSp} (C_all_pairs : Callee P w K mg base k "all_pairs" P_all_pairs sp_all_pairs) 
    (F : FunD K "loops_of" "loops_of" (defArgs s_loops_of) (defBody s_loops_of) (defScope s_loops_of) [] [] f fd) (len : ∀ ds G Q E, sp ds G Q E → ds.length = 1)
    (ok : ∀ ds G Q E, sp ds G Q E → (r_loops_of sp_all_pairs) { nx := fun _ G' => Q .non G', rt := Q } (startD 3 ds) G) : DFn P w K mg base (k + 1) f fd P_loops_of sp :=
  dfn_of F sc_loops_of len (b_loops_of T C_all_pairs) ok

theorem k_loops_of {P : Program} {w : World} {K : PySem.W.Frag} {mg : Str → Option Value} {base : Heap} {k : Nat} {f : Addr} {fd : FuncData} {sp : DSp} (T : Tx w K mg) {sp_all_pairs : DSp} (C_all_pairs : Callee P w K mg base k "all_pairs" P_all_pairs sp_all_pairs) 
    (F : FunD K "loops_of" "loops_of" (defArgs s_loops_of) (defBody s_loops_of) (defScope s_loops_of) [] [] f fd) (hm : mg "loops_of" = some (.ref f)) (len : ∀ ds G Q E, sp ds G Q E → ds.length = 1)
    (ok : ∀ ds G Q E, sp ds G Q E → (r_loops_of sp_all_pairs) { nx := fun _ G' => Q .non G', rt := Q } (startD 3 ds) G) : Callee P w K mg base (k + 1) "loops_of" P_loops_of sp :=
  callee_of F hm (d_loops_of T C_all_pairs F len ok) (fun _ _ _ _ _ _ us hl => match us, hl with | [_], _ => rfl) (fun _ _ _ _ _ _ us hl => match us, hl with | [_], _ => rfl)

abbrev N_counted_along : List Str := ["work", "path", "found"]
abbrev P_counted_along : List Str := ["work", "path"]

theorem sc_counted_along : FnScope N_counted_along P_counted_along (defScope s_counted_along) := ⟨rfl, rfl, rfl, by decide +kernel, rfl, by decide +kernel, by decide +kernel⟩

theorem b_counted_along {P : Program} {w : World} {K : PySem.W.Frag} {mg : Str → Option Value} {base : Heap} {k : Nat} {f : Addr} (T : Tx w K mg) {sp_require_usable : DSp} {sp_works_along : DSp} (C_require_usable : Callee P w K mg base k "require_usable" P_require_usable sp_require_usable) (C_works_along : Callee P w K mg base k "works_along" P_works_along sp_works_along)  (cdv : Value) (A : Around) (out : List Env) (st : Shared) (H : Hp) (E : XK)
    (hr : Room k (A.deeper (PyProof.Rows.envOfC "counted_along" (defScope s_counted_along) st.heap.objs.size f cdv))) (hgd : (A.deeper (PyProof.Rows.envOfC "counted_along" (defScope s_counted_along) st.heap.objs.size f cdv)).guards = some []) :
    DSs (cxOf CX0 P w K mg base N_counted_along "counted_along" (defScope s_counted_along) f cdv A out st H E).nox (defBody s_counted_along) (r_counted_along sp_require_usable sp_works_along) := by
  have SC := sc_counted_along
  have hu := hu_of hr
  have hu64 := hr.units
  have hu70 := hu70_of hr
  exact (ds_cons (ds_set (i := 2) SC.nd rfl (by first | exact Or.inl rfl | exact Or.inr rfl) (dc C_works_along hr hgd rfl (da_cons (dv 0) (da_cons (dv 1) da_nil))))
  (ds_cons (ds_expr (dc C_require_usable hr hgd rfl (da_cons (de_cmp o_in (de_ix (de_ix (dv 2) (de_neg de_int)) de_int) (de_glob rfl T.c_COUNTED) rfl) (da_cons de_str (da_cons (de_neg de_int) da_nil)))))
  (ds_one (ds_ret (dv 2)))))

theorem d_counted_along {P : Program} {w : World} {K : PySem.W.Frag} {mg : Str → Option Value} {base : Heap} {k : Nat} {f : Addr} {fd : FuncData} {sp : DSp} (T : Tx w K mg) {sp_require_usable : DSp} {sp_works_along : DSp} (C_require_usable : Callee P w K mg base k "require_usable" P_require_usable sp_require_usable) (C_works_along : Callee P w K mg base k "works_along" P_works_along sp_works_along) 
    (F : FunD K "counted_along" "counted_along" (defArgs s_counted_along) (defBody s_counted_along) (defScope s_counted_along) [] [] f fd) (len : ∀ ds G Q E, sp ds G Q E → ds.length = 2)
    (ok : ∀ ds G Q E, sp ds G Q E → (r_counted_along sp_require_usable sp_works_along) { nx := fun _ G' => Q .non G', rt := Q } (startD 3 ds) G) : DFn P w K mg base (k + 1) f fd P_counted_along sp :=
  dfn_of F sc_counted_along len (b_counted_along T C_require_usable C_works_along) ok

theorem k_counted_along {P : Program} {w : World} {K : PySem.W.Frag} {mg : Str → Option Value} {base : Heap} {k : Nat} {f : Addr} {fd : FuncData} {sp : DSp} (T : Tx w K mg) {sp_require_usable : DSp} {sp_works_along : DSp} (C_require_usable : Callee P w K mg base k "require_usable" P_require_usable sp_require_usable) (C_works_along : Callee P w K mg base k "works_along" P_works_along sp_works_along) 
    (F : FunD K "counted_along" "counted_along" (defArgs s_counted_along) (defBody s_counted_along) (defScope s_counted_along) [] [] f fd) (hm : mg "counted_along" = some (.ref f)) (len : ∀ ds G Q E, sp ds G Q E → ds.length = 2)
    (ok : ∀ ds G Q E, sp ds G Q E → (r_counted_along sp_require_usable sp_works_along) { nx := fun _ G' => Q .non G', rt := Q } (startD 3 ds) G) : Callee P w K mg base (k + 1) "counted_along" P_counted_along sp :=
  callee_of F hm (d_counted_along T C_require_usable C_works_along F len ok) (fun _ _ _ _ _ _ us hl => match us, hl with | [_, _], _ => rfl) (fun _ _ _ _ _ _ us hl => match us, hl with | [_, _], _ => rfl)

abbrev N_bounds_of : List Str := ["work", "path", "part"]
abbrev P_bounds_of : List Str := ["work", "path"]

theorem sc_bounds_of : FnScope N_bounds_of P_bounds_of (defScope s_bounds_of) := ⟨rfl, rfl, rfl, by decide +kernel, rfl, by decide +kernel, by decide +kernel⟩

theorem b_bounds_of {P : Program} {w : World} {K : PySem.W.Frag} {mg : Str → Option Value} {base : Heap} {k : Nat} {f : Addr} (T : Tx w K mg) {sp_counted_along : DSp} (C_counted_along : Callee P w K mg base k "counted_along" P_counted_along sp_counted_along)  (cdv : Value) (A : Around) (out : List Env) (st : Shared) (H : Hp) (E : XK)
    (hr : Room k (A.deeper (PyProof.Rows.envOfC "bounds_of" (defScope s_bounds_of) st.heap.objs.size f cdv))) (hgd : (A.deeper (PyProof.Rows.envOfC "bounds_of" (defScope s_bounds_of) st.heap.objs.size f cdv)).guards = some []) :
    DSs (cxOf CX0 P w K mg base N_bounds_of "bounds_of" (defScope s_bounds_of) f cdv A out st H E).nox (defBody s_bounds_of) (r_bounds_of sp_counted_along) := by
  have SC := sc_bounds_of
  have hu := hu_of hr
  have hu64 := hr.units
  have hu70 := hu70_of hr
  exact (ds_cons (ds_set (i := 2) SC.nd rfl (by first | exact Or.inl rfl | exact Or.inr rfl) (de_ix (dc C_counted_along hr hgd rfl (da_cons (dv 0) (da_cons (dv 1) da_nil))) (de_neg de_int)))
  (ds_one (ds_ret (de_tup (da_cons (de_ix (dv 2) de_int) (da_cons (de_ix (dv 2) de_int) da_nil))))))

theorem d_bounds_of {P : Program} {w : World} {K : PySem.W.Frag} {mg : Str → Option Value} {base : Heap} {k : Nat} {f : Addr} {fd : FuncData} {sp : DSp} (T : Tx w K mg) {sp_counted_along : DSp} (C_counted_along : Callee P w K mg base k "counted_along" P_counted_along sp_counted_along) 
    (F : FunD K "bounds_of" "bounds_of" (defArgs s_bounds_of) (defBody s_bounds_of) (defScope s_bounds_of) [] [] f fd) (len : ∀ ds G Q E, sp ds G Q E → ds.length = 2)
    (ok : ∀ ds G Q E, sp ds G Q E → (r_bounds_of sp_counted_along) { nx := fun _ G' => Q .non G', rt := Q } (startD 3 ds) G) : DFn P w K mg base (k + 1) f fd P_bounds_of sp :=
  dfn_of F sc_bounds_of len (b_bounds_of T C_counted_along) ok

theorem k_bounds_of {P : Program} {w : World} {K : PySem.W.Frag} {mg : Str → Option Value} {base : Heap} {k : Nat} {f : Addr} {fd : FuncData} {sp : DSp} (T : Tx w K mg) {sp_counted_along : DSp} (C_counted_along : Callee P w K mg base k "counted_along" P_counted_along sp_counted_along) 
    (F : FunD K "bounds_of" "bounds_of" (defArgs s_bounds_of) (defBody s_bounds_of) (defScope s_bounds_of) [] [] f fd) (hm : mg "bounds_of" = some (.ref f)) (len : ∀ ds G Q E, sp ds G Q E → ds.length = 2)
    (ok : ∀ ds G Q E, sp ds G Q E → (r_bounds_of sp_counted_along) { nx := fun _ G' => Q .non G', rt := Q } (startD 3 ds) G) : Callee P w K mg base (k + 1) "bounds_of" P_bounds_of sp :=
  callee_of F hm (d_bounds_of T C_counted_along F len ok) (fun _ _ _ _ _ _ us hl => match us, hl with | [_, _], _ => rfl) (fun _ _ _ _ _ _ us hl => match us, hl with | [_, _], _ => rfl)

abbrev N_with_told : List Str := ["work", "path", "told", "found", "part"]
abbrev P_with_told : List Str := ["work", "path", "told"]

theorem sc_with_told : FnScope N_with_told P_with_told (defScope s_with_told) := ⟨rfl, rfl, rfl, by decide +kernel, rfl, by decide +kernel, by decide +kernel⟩

theorem b_with_told {P : Program} {w : World} {K : PySem.W.Frag} {mg : Str → Option Value} {base : Heap} {k : Nat} {f : Addr} (T : Tx w K mg) {sp_put_along : DSp} {sp_counted_along : DSp} (C_put_along : Callee P w K mg base k "put_along" P_put_along sp_put_along) (C_counted_along : Callee P w K mg base k "counted_along" P_counted_along sp_counted_along)  (cdv : Value) (A : Around) (out : List Env) (st : Shared) (H : Hp) (E : XK)
    (hr : Room k (A.deeper (PyProof.Rows.envOfC "with_told" (defScope s_with_told) st.heap.objs.size f cdv))) (hgd : (A.deeper (PyProof.Rows.envOfC "with_told" (defScope s_with_told) st.heap.objs.size f cdv)).guards = some []) :
    DSs (cxOf CX0 P w K mg base N_with_told "with_told" (defScope s_with_told) f cdv A out st H E).nox (defBody s_with_told) (r_with_told sp_put_along sp_counted_along) := by
  have SC := sc_with_told
  have hu := hu_of hr
  have hu64 := hr.units
  have hu70 := hu70_of hr
  exact (ds_cons (ds_set (i := 3) SC.nd rfl (by first | exact Or.inl rfl | exact Or.inr rfl) (dc C_counted_along hr hgd rfl (da_cons (dv 0) (da_cons (dv 1) da_nil))))
  (ds_cons (ds_set (i := 4) SC.nd rfl (by first | exact Or.inl rfl | exact Or.inr rfl) (de_ix (dv 3) (de_neg de_int)))
  (ds_one (ds_ret (dc C_put_along hr hgd rfl (da_cons (de_frz (de_slice (dv 3) do_none (do_some (de_neg de_int)))) (da_cons (dv 1) (da_cons (de_tup (da_star (de_slice (dv 4) do_none (do_some de_int)) (da_cons (dv 2) (da_star (de_slice (dv 4) (do_some de_int) do_none) da_nil)))) da_nil))))))))

theorem d_with_told {P : Program} {w : World} {K : PySem.W.Frag} {mg : Str → Option Value} {base : Heap} {k : Nat} {f : Addr} {fd : FuncData} {sp : DSp} (T : Tx w K mg) {sp_put_along : DSp} {sp_counted_along : DSp} (C_put_along : Callee P w K mg base k "put_along" P_put_along sp_put_along) (C_counted_along : Callee P w K mg base k "counted_along" P_counted_along sp_counted_along) 
    (F : FunD K "with_told" "with_told" (defArgs s_with_told) (defBody s_with_told) (defScope s_with_told) [] [] f fd) (len : ∀ ds G Q E, sp ds G Q E → ds.length = 3)
    (ok : ∀ ds G Q E, sp ds G Q E → (r_with_told sp_put_along sp_counted_along) { nx := fun _ G' => Q .non G', rt := Q } (startD 5 ds) G) : DFn P w K mg base (k + 1) f fd P_with_told sp :=
  dfn_of F sc_with_told len (b_with_told T C_put_along C_counted_along) ok

theorem k_with_told {P : Program} {w : World} {K : PySem.W.Frag} {mg : Str → Option Value} {base : Heap} {k : Nat} {f : Addr} {fd : FuncData} {sp : DSp} (T : Tx w K mg) {sp_put_along : DSp} {sp_counted_along : DSp} (C_put_along : Callee P w K mg base k "put_along" P_put_along sp_put_along) (C_counted_along : Callee P w K mg base k "counted_along" P_counted_along sp_counted_along) 
    (F : FunD K "with_told" "with_told" (defArgs s_with_told) (defBody s_with_told) (defScope s_with_told) [] [] f fd) (hm : mg "with_told" = some (.ref f)) (len : ∀ ds G Q E, sp ds G Q E → ds.length = 3)
    (ok : ∀ ds G Q E, sp ds G Q E → (r_with_told sp_put_along sp_counted_along) { nx := fun _ G' => Q .non G', rt := Q } (startD 5 ds) G) : Callee P w K mg base (k + 1) "with_told" P_with_told sp :=
  callee_of F hm (d_with_told T C_put_along C_counted_along F len ok) (fun _ _ _ _ _ _ us hl => match us, hl with | [_, _, _], _ => rfl) (fun _ _ _ _ _ _ us hl => match us, hl with | [_, _, _], _ => rfl)

abbrev N_told_first : List Str := ["work", "path"]
abbrev P_told_first : List Str := ["work", "path"]

theorem sc_told_first : FnScope N_told_first P_told_first (defScope s_told_first) := ⟨rfl, rfl, rfl, by decide +kernel, rfl, by decide +kernel, by decide +kernel⟩

theorem b_told_first {P : Program} {w : World} {K : PySem.W.Frag} {mg : Str → Option Value} {base : Heap} {k : Nat} {f : Addr} (T : Tx w K mg) {sp_with_told : DSp} (C_with_told : Callee P w K mg base k "with_told" P_with_told sp_with_told)  (cdv : Value) (A : Around) (out : List Env) (st : Shared) (H : Hp) (E : XK)
    (hr : Room k (A.deeper (PyProof.Rows.envOfC "told_first" (defScope s_told_first) st.heap.objs.size f cdv))) (hgd : (A.deeper (PyProof.Rows.envOfC "told_first" (defScope s_told_first) st.heap.objs.size f cdv)).guards = some []) :
    DSs (cxOf CX0 P w K mg base N_told_first "told_first" (defScope s_told_first) f cdv A out st H E).nox (defBody s_told_first) (r_told_first sp_with_told) := by
  have SC := sc_told_first
  have hu := hu_of hr
  have hu64 := hr.units
  have hu70 := hu70_of hr
  exact (ds_one (ds_ret (dc C_with_told hr hgd rfl (da_cons (dv 0) (da_cons (dv 1) (da_cons de_bl da_nil))))))

theorem d_told_first {P : Program} {w : World} {K : PySem.W.Frag} {mg : Str → Option Value} {base : Heap} {k : Nat} {f : Addr} {fd : FuncData} {sp : DSp} (T : Tx w K mg) {sp_with_told : DSp} (C_with_told : Callee P w K mg base k "with_told" P_with_told sp_with_told) 
    (F : FunD K "told_first" "told_first" (defArgs s_told_first) (defBody s_told_first) (defScope s_told_first) [] [] f fd) (len : ∀ ds G Q E, sp ds G Q E → ds.length = 2)
    (ok : ∀ ds G Q E, sp ds G Q E → (r_told_first sp_with_told) { nx := fun _ G' => Q .non G', rt := Q } (startD 2 ds) G) : DFn P w K mg base (k + 1) f fd P_told_first sp :=
  dfn_of F sc_told_first len (b_told_first T C_with_told) ok

theorem k_told_first {P : Program} {w : World} {K : PySem.W.Frag} {mg : Str → Option Value} {base : Heap} {k : Nat} {f : Addr} {fd : FuncData} {sp : DSp} (T : Tx w K mg) {sp_with_told : DSp} (C_with_told : Callee P w K mg base k "with_told" P_with_told sp_with_told) 
    (F : FunD K "told_first" "told_first" (defArgs s_told_first) (defBody s_told_first) (defScope s_told_first) [] [] f fd) (hm : mg "told_first" = some (.ref f)) (len : ∀ ds G Q E, sp ds G Q E → ds.length = 2)
    (ok : ∀ ds G Q E, sp ds G Q E → (r_told_first sp_with_told) { nx := fun _ G' => Q .non G', rt := Q } (startD 2 ds) G) : Callee P w K mg base (k + 1) "told_first" P_told_first sp :=
  callee_of F hm (d_told_first T C_with_told F len ok) (fun _ _ _ _ _ _ us hl => match us, hl with | [_, _], _ => rfl) (fun _ _ _ _ _ _ us hl => match us, hl with | [_, _], _ => rfl)

abbrev N_told_last : List Str := ["work", "path"]
abbrev P_told_last : List Str := ["work", "path"]

theorem sc_told_last : FnScope N_told_last P_told_last (defScope s_told_last) := ⟨rfl, rfl, rfl, by decide +kernel, rfl, by decide +kernel, by decide +kernel⟩

theorem b_told_last {P : Program} {w : World} {K : PySem.W.Frag} {mg : Str → Option Value} {base : Heap} {k : Nat} {f : Addr} (T : Tx w K mg) {sp_with_told : DSp} (C_with_told : Callee P w K mg base k "with_told" P_with_told sp_with_told)  (cdv : Value) (A : Around) (out : List Env) (st : Shared) (H : Hp) (E : XK)
    (hr : Room k (A.deeper (PyProof.Rows.envOfC "told_last" (defScope s_told_last) st.heap.objs.size f cdv))) (hgd : (A.deeper (PyProof.Rows.envOfC "told_last" (defScope s_told_last) st.heap.objs.size f cdv)).guards = some []) :
    DSs (cxOf CX0 P w K mg base N_told_last "told_last" (defScope s_told_last) f cdv A out st H E).nox (defBody s_told_last) (r_told_last sp_with_told) := by
  have SC := sc_told_last
  have hu := hu_of hr
  have hu64 := hr.units
  have hu70 := hu70_of hr
  exact (ds_one (ds_ret (dc C_with_told hr hgd rfl (da_cons (dv 0) (da_cons (dv 1) (da_cons de_bl da_nil))))))

theorem d_told_last {P : Program} {w : World} {K : PySem.W.Frag} {mg : Str → Option Value} {base : Heap} {k : Nat} {f : Addr} {fd : FuncData} {sp : DSp} (T : Tx w K mg) {sp_with_told : DSp} (C_with_told : Callee P w K mg base k "with_told" P_with_told sp_with_told) 
    (F : FunD K "told_last" "told_last" (defArgs s_told_last) (defBody s_told_last) (defScope s_told_last) [] [] f fd) (len : ∀ ds G Q E, sp ds G Q E → ds.length = 2)
    (ok : ∀ ds G Q E, sp ds G Q E → (r_told_last sp_with_told) { nx := fun _ G' => Q .non G', rt := Q } (startD 2 ds) G) : DFn P w K mg base (k + 1) f fd P_told_last sp :=
  dfn_of F sc_told_last len (b_told_last T C_with_told) ok

theorem k_told_last {P : Program} {w : World} {K : PySem.W.Frag} {mg : Str → Option Value} {base : Heap} {k : Nat} {f : Addr} {fd : FuncData} {sp : DSp} (T : Tx w K mg) {sp_with_told : DSp} (C_with_told : Callee P w K mg base k "with_told" P_with_told sp_with_told) 
    (F : FunD K "told_last" "told_last" (defArgs s_told_last) (defBody s_told_last) (defScope s_told_last) [] [] f fd) (hm : mg "told_last" = some (.ref f)) (len : ∀ ds G Q E, sp ds G Q E → ds.length = 2)
    (ok : ∀ ds G Q E, sp ds G Q E → (r_told_last sp_with_told) { nx := fun _ G' => Q .non G', rt := Q } (startD 2 ds) G) : Callee P w K mg base (k + 1) "told_last" P_told_last sp :=
  callee_of F hm (d_told_last T C_with_told F len ok) (fun _ _ _ _ _ _ us hl => match us, hl with | [_, _], _ => rfl) (fun _ _ _ _ _ _ us hl => match us, hl with | [_, _], _ => rfl)

abbrev N_with_bounds : List Str := ["work", "path", "least", "most", "found", "part"]
abbrev P_with_bounds : List Str := ["work", "path", "least", "most"]

theorem sc_with_bounds : FnScope N_with_bounds P_with_bounds (defScope s_with_bounds) := ⟨rfl, rfl, rfl, by decide +kernel, rfl, by decide +kernel, by decide +kernel⟩

theorem b_with_bounds {P : Program} {w : World} {K : PySem.W.Frag} {mg : Str → Option Value} {base : Heap} {k : Nat} {f : Addr} (T : Tx w K mg) {sp_put_along : DSp} {sp_require_usable : DSp} {sp_is_number : DSp} {sp_counted_along : DSp} (C_put_along : Callee P w K mg base k "put_along" P_put_along sp_put_along) (C_require_usable : Callee P w K mg base k "require_usable" P_require_usable sp_require_usable) (C_is_number : Callee P w K mg base k "is_number" P_is_number sp_is_number) (C_counted_along : Callee P w K mg base k "counted_along" P_counted_along sp_counted_along)  (cdv : Value) (A : Around) (out : List Env) (st : Shared) (H : Hp) (E : XK)
    (hr : Room k (A.deeper (PyProof.Rows.envOfC "with_bounds" (defScope s_with_bounds) st.heap.objs.size f cdv))) (hgd : (A.deeper (PyProof.Rows.envOfC "with_bounds" (defScope s_with_bounds) st.heap.objs.size f cdv)).guards = some []) :
    DSs (cxOf CX0 P w K mg base N_with_bounds "with_bounds" (defScope s_with_bounds) f cdv A out st H E).nox (defBody s_with_bounds) (r_with_bounds sp_put_along sp_require_usable sp_is_number sp_counted_along) := by
  have SC := sc_with_bounds
  have hu := hu_of hr
  have hu64 := hr.units
  have hu70 := hu70_of hr
  exact (ds_cons (ds_set (i := 4) SC.nd rfl (by first | exact Or.inl rfl | exact Or.inr rfl) (dc C_counted_along hr hgd rfl (da_cons (dv 0) (da_cons (dv 1) da_nil))))
  (ds_cons (ds_expr (dc C_require_usable hr hgd rfl (da_cons (dc C_is_number hr hgd rfl (da_cons (dv 2) da_nil)) (da_cons de_str (da_cons (de_neg de_int) da_nil)))))
  (ds_cons (ds_expr (dc C_require_usable hr hgd rfl (da_cons (de_and (dc C_is_number hr hgd rfl (da_cons (dv 3) da_nil)) (de_one (de_cmp o_le (dv 2) (dv 3) (nomark _)))) (da_cons de_str (da_cons (de_neg de_int) da_nil)))))
  (ds_cons (ds_set (i := 5) SC.nd rfl (by first | exact Or.inl rfl | exact Or.inr rfl) (de_ix (dv 4) (de_neg de_int)))
  (ds_one (ds_ret (dc C_put_along hr hgd rfl (da_cons (de_frz (de_slice (dv 4) do_none (do_some (de_neg de_int)))) (da_cons (dv 1) (da_cons (de_tup (da_cons (de_ix (dv 5) de_int) (da_cons (dv 2) (da_cons (dv 3) (da_star (de_slice (dv 5) (do_some de_int) do_none) da_nil))))) da_nil))))))))))

theorem d_with_bounds {P : Program} {w : World} {K : PySem.W.Frag} {mg : Str → Option Value} {base : Heap} {k : Nat} {f : Addr} {fd : FuncData} {sp : DSp} (T : Tx w K mg) {sp_put_along : DSp} {sp_require_usable : DSp} {sp_is_number : DSp} {sp_counted_along : DSp} (C_put_along : Callee P w K mg base k "put_along" P_put_along sp_put_along) (C_require_usable : Callee P w K mg base k "require_usable" P_require_usable sp_require_usable) (C_is_number : Callee P w K mg base k "is_number" P_is_number sp_is_number) (C_counted_along : Callee P w K mg base k "counted_along" P_counted_along sp_counted_along) 
    (F : FunD K "with_bounds" "with_bounds" (defArgs s_with_bounds) (defBody s_with_bounds) (defScope s_with_bounds) [] [] f fd) (len : ∀ ds G Q E, sp ds G Q E → ds.length = 4)
    (ok : ∀ ds G Q E, sp ds G Q E → (r_with_bounds sp_put_along sp_require_usable sp_is_number sp_counted_along) { nx := fun _ G' => Q .non G', rt := Q } (startD 6 ds) G) : DFn P w K mg base (k + 1) f fd P_with_bounds sp :=
  dfn_of F sc_with_bounds len (b_with_bounds T C_put_along C_require_usable C_is_number C_counted_along) ok

theorem k_with_bounds {P : Program} {w : World} {K : PySem.W.Frag} {mg : Str → Option Value} {base : Heap} {k : Nat} {f : Addr} {fd : FuncData} {sp : DSp} (T : Tx w K mg) {sp_put_along : DSp} {sp_require_usable : DSp} {sp_is_number : DSp} {sp_counted_along : DSp} (C_put_along : Callee P w K mg base k "put_along" P_put_along sp_put_along) (C_require_usable : Callee P w K mg base k "require_usable" P_require_usable sp_require_usable) (C_is_number : Callee P w K mg base k "is_number" P_is_number sp_is_number) (C_counted_along : Callee P w K mg base k "counted_along" P_counted_along sp_counted_along) 
    (F : FunD K "with_bounds" "with_bounds" (defArgs s_with_bounds) (defBody s_with_bounds) (defScope s_with_bounds) [] [] f fd) (hm : mg "with_bounds" = some (.ref f)) (len : ∀ ds G Q E, sp ds G Q E → ds.length = 4)
    (ok : ∀ ds G Q E, sp ds G Q E → (r_with_bounds sp_put_along sp_require_usable sp_is_number sp_counted_along) { nx := fun _ G' => Q .non G', rt := Q } (startD 6 ds) G) : Callee P w K mg base (k + 1) "with_bounds" P_with_bounds sp :=
  callee_of F hm (d_with_bounds T C_put_along C_require_usable C_is_number C_counted_along F len ok) (fun _ _ _ _ _ _ us hl => match us, hl with | [_, _, _, _], _ => rfl) (fun _ _ _ _ _ _ us hl => match us, hl with | [_, _, _, _], _ => rfl)

abbrev N_is_path_of : List Str := ["paths", "thing", "k"]
abbrev P_is_path_of : List Str := ["paths", "thing"]

theorem sc_is_path_of : FnScope N_is_path_of P_is_path_of (defScope s_is_path_of) := ⟨rfl, rfl, rfl, by decide +kernel, rfl, by decide +kernel, by decide +kernel⟩

theorem b_is_path_of {P : Program} {w : World} {K : PySem.W.Frag} {mg : Str → Option Value} {base : Heap} {k : Nat} {f : Addr} (T : Tx w K mg) {sp_is_number : DSp} (C_is_number : Callee P w K mg base k "is_number" P_is_number sp_is_number)  (cdv : Value) (A : Around) (out : List Env) (st : Shared) (H : Hp) (E : XK)
    (hr : Room k (A.deeper (PyProof.Rows.envOfC "is_path_of" (defScope s_is_path_of) st.heap.objs.size f cdv))) (hgd : (A.deeper (PyProof.Rows.envOfC "is_path_of" (defScope s_is_path_of) st.heap.objs.size f cdv)).guards = some []) :
    DSs (cxOf CX0 P w K mg base N_is_path_of "is_path_of" (defScope s_is_path_of) f cdv A out st H E).nox (defBody s_is_path_of) (r_is_path_of sp_is_number) := by
  have SC := sc_is_path_of
  have hu := hu_of hr
  have hu64 := hr.units
  have hu70 := hu70_of hr
  exact (ds_one (ds_ret (de_and (de_isi (T := "tuple") (by decide) rfl T.m_isinstance rfl T.m_tuple (by decide +kernel) (dv 1)) (de_and (de_callB (c_all rfl) rfl T.m_all (by decide +kernel) (da_cons (de_frz (de_lc (own := [("k", 2)]) (ct := (.one 2)) rfl SC.nd (di_seq (dv 1)) (blkOk_by (by show blkC N_is_path_of (defScope s_is_path_of) _ _ = true; decide +kernel)) (by decide) (fun _ _ _ _ _ => pg_name (i := 2) SC.nd rfl (Or.inl rfl)) (fun _ _ _ _ _ => dts_nil) (fun _ _ _ _ _ => (dc C_is_number hr hgd rfl (da_cons (dv 2) da_nil))))) da_nil)) (de_one (de_cmp (o_inT hu70) (dv 1) (dv 0) rfl))))))

theorem d_is_path_of {P : Program} {w : World} {K : PySem.W.Frag} {mg : Str → Option Value} {base : Heap} {k : Nat} {f : Addr} {fd : FuncData} {sp : DSp} (T : Tx w K mg) {sp_is_number : DSp} (C_is_number : Callee P w K mg base k "is_number" P_is_number sp_is_number) 
    (F : FunD K "is_path_of" "is_path_of" (defArgs s_is_path_of) (defBody s_is_path_of) (defScope s_is_path_of) [] [] f fd) (len : ∀ ds G Q E, sp ds G Q E → ds.length = 2)
    (ok : ∀ ds G Q E, sp ds G Q E → (r_is_path_of sp_is_number) { nx := fun _ G' => Q .non G', rt := Q } (startD 3 ds) G) : DFn P w K mg base (k + 1) f fd P_is_path_of sp :=
  dfn_of F sc_is_path_of len (b_is_path_of T C_is_number) ok

theorem k_is_path_of {P : Program} {w : World} {K : PySem.W.Frag} {mg : Str → Option Value} {base : Heap} {k : Nat} {f : Addr} {fd : FuncData} {sp : DSp} (T : Tx w K mg) {sp_is_number : DSp} (C_is_number : Callee P w K mg base k "is_number" P_is_number sp_is_number) 
    (F : FunD K "is_path_of" "is_path_of" (defArgs s_is_path_of) (defBody s_is_path_of) (defScope s_is_path_of) [] [] f fd) (hm : mg "is_path_of" = some (.ref f)) (len : ∀ ds G Q E, sp ds G Q E → ds.length = 2)
    (ok : ∀ ds G Q E, sp ds G Q E → (r_is_path_of sp_is_number) { nx := fun _ G' => Q .non G', rt := Q } (startD 3 ds) G) : Callee P w K mg base (k + 1) "is_path_of" P_is_path_of sp :=
  callee_of F hm (d_is_path_of T C_is_number F len ok) (fun _ _ _ _ _ _ us hl => match us, hl with | [_, _], _ => rfl) (fun _ _ _ _ _ _ us hl => match us, hl with | [_, _], _ => rfl)

abbrev N_told_at : List Str := ["work", "paths", "known", "k", "path", "late"]
abbrev P_told_at : List Str := ["work", "paths"]

theorem sc_told_at : FnScope N_told_at P_told_at (defScope s_told_at) := ⟨rfl, rfl, rfl, by decide +kernel, rfl, by decide +kernel, by decide +kernel⟩

theorem b_told_at {P : Program} {w : World} {K : PySem.W.Frag} {mg : Str → Option Value} {base : Heap} {k : Nat} {f : Addr} (T : Tx w K mg) {sp_with_told : DSp} {sp_require_usable : DSp} {sp_is_path_of : DSp} {sp_loops_of : DSp} (C_with_told : Callee P w K mg base k "with_told" P_with_told sp_with_told) (C_require_usable : Callee P w K mg base k "require_usable" P_require_usable sp_require_usable) (C_is_path_of : Callee P w K mg base k "is_path_of" P_is_path_of sp_is_path_of) (C_loops_of : Callee P w K mg base k "loops_of" P_loops_of sp_loops_of)  (cdv : Value) (A : Around) (out : List Env) (st : Shared) (H : Hp) (E : XK)
    (hr : Room k (A.deeper (PyProof.Rows.envOfC "told_at" (defScope s_told_at) st.heap.objs.size f cdv))) (hgd : (A.deeper (PyProof.Rows.envOfC "told_at" (defScope s_told_at) st.heap.objs.size f cdv)).guards = some []) :
    DSs (cxOf CX0 P w K mg base N_told_at "told_at" (defScope s_told_at) f cdv A out st H E).nox (defBody s_told_at) (r_told_at sp_with_told sp_require_usable sp_is_path_of sp_loops_of) := by
  have SC := sc_told_at
  have hu := hu_of hr
  have hu64 := hr.units
  have hu70 := hu70_of hr
  exact (ds_cons (ds_expr (dc C_require_usable hr hgd rfl (da_cons (de_isi (T := "tuple") (by decide) rfl T.m_isinstance rfl T.m_tuple (by decide +kernel) (dv 1)) (da_cons de_str (da_cons (de_neg de_int) da_nil)))))
  (ds_cons (ds_set (i := 2) SC.nd rfl (by first | exact Or.inl rfl | exact Or.inr rfl) (dc C_loops_of hr hgd rfl (da_cons (dv 0) da_nil)))
  (ds_cons (ds_for PassesOwn.never rfl (di_enumT rfl T.m_enumerate (dv 1)) (dg_tup rfl (dgs_cons (dg_name (i := 3) SC.nd rfl (by first | exact Or.inl rfl | exact Or.inr rfl)) (dgs_cons (dg_name (i := 4) SC.nd rfl (by first | exact Or.inl rfl | exact Or.inr rfl)) dgs_nil)))
  (ds_one (ds_expr (dc C_require_usable hr hgd rfl (da_cons (dc C_is_path_of hr hgd rfl (da_cons (dv 2) (da_cons (dv 4) da_nil))) (da_cons de_str (da_cons (dv 3) da_nil)))))))
  (ds_cons (ds_set (i := 5) SC.nd rfl (by first | exact Or.inl rfl | exact Or.inr rfl) (dv 0))
  (ds_cons (ds_for PassesOwn.never rfl (di_seq (dv 1)) (dg_name (i := 4) SC.nd rfl (by first | exact Or.inl rfl | exact Or.inr rfl))
  (ds_one (ds_set (i := 5) SC.nd rfl (by first | exact Or.inl rfl | exact Or.inr rfl) (dc C_with_told hr hgd rfl (da_cons (dv 5) (da_cons (dv 4) (da_cons de_bl da_nil)))))))
  (ds_one (ds_ret (dv 5))))))))

theorem d_told_at {P : Program} {w : World} {K : PySem.W.Frag} {mg : Str → Option Value} {base : Heap} {k : Nat} {f : Addr} {fd : FuncData} {sp : DSp} (T : Tx w K mg) {sp_with_told : DSp} {sp_require_usable : DSp} {sp_is_path_of : DSp} {sp_loops_of : DSp} (C_with_told : Callee P w K mg base k "with_told" P_with_told sp_with_told) (C_require_usable : Callee P w K mg base k "require_usable" P_require_usable sp_require_usable) (C_is_path_of : Callee P w K mg base k "is_path_of" P_is_path_of sp_is_path_of) (C_loops_of : Callee P w K mg base k "loops_of" P_loops_of sp_loops_of) 
    (F : FunD K "told_at" "told_at" (defArgs s_told_at) (defBody s_told_at) (defScope s_told_at) [] [] f fd) (len : ∀ ds G Q E, sp ds G Q E → ds.length = 2)
    (ok : ∀ ds G Q E, sp ds G Q E → (r_told_at sp_with_told sp_require_usable sp_is_path_of sp_loops_of) { nx := fun _ G' => Q .non G', rt := Q } (startD 6 ds) G) : DFn P w K mg base (k + 1) f fd P_told_at sp :=
  dfn_of F sc_told_at len (b_told_at T C_with_told C_require_usable C_is_path_of C_loops_of) ok

theorem k_told_at {P : Program} {w : World} {K : PySem.W.Frag} {mg : Str → Option Value} {base : Heap} {k : Nat} {f : Addr} {fd : FuncData} {sp : DSp} (T : Tx w K mg) {sp_with_told : DSp} {sp_require_usable : DSp} {sp_is_path_of : DSp} {sp_loops_of : DSp} (C_with_told : Callee P w K mg base k "with_told" P_with_told sp_with_told) (C_require_usable : Callee P w K mg base k "require_usable" P_require_usable sp_require_usable) (C_is_path_of : Callee P w K mg base k "is_path_of" P_is_path_of sp_is_path_of) (C_loops_of : Callee P w K mg base k "loops_of" P_loops_of sp_loops_of) 
    (F : FunD K "told_at" "told_at" (defArgs s_told_at) (defBody s_told_at) (defScope s_told_at) [] [] f fd) (hm : mg "told_at" = some (.ref f)) (len : ∀ ds G Q E, sp ds G Q E → ds.length = 2)
    (ok : ∀ ds G Q E, sp ds G Q E → (r_told_at sp_with_told sp_require_usable sp_is_path_of sp_loops_of) { nx := fun _ G' => Q .non G', rt := Q } (startD 6 ds) G) : Callee P w K mg base (k + 1) "told_at" P_told_at sp :=
  callee_of F hm (d_told_at T C_with_told C_require_usable C_is_path_of C_loops_of F len ok) (fun _ _ _ _ _ _ us hl => match us, hl with | [_, _], _ => rfl) (fun _ _ _ _ _ _ us hl => match us, hl with | [_, _], _ => rfl)

abbrev N_require_paper : List Str := ["truth", "word", "at"]
abbrev P_require_paper : List Str := ["truth", "word", "at"]

theorem sc_require_paper : FnScope N_require_paper P_require_paper (defScope s_require_paper) := ⟨rfl, rfl, rfl, by decide +kernel, rfl, by decide +kernel, by decide +kernel⟩

theorem b_require_paper {P : Program} {w : World} {K : PySem.W.Frag} {mg : Str → Option Value} {base : Heap} {k : Nat} {f : Addr} (T : Tx w K mg)    (cdv : Value) (A : Around) (out : List Env) (st : Shared) (H : Hp) (E : XK)
    (hr : Room k (A.deeper (PyProof.Rows.envOfC "require_paper" (defScope s_require_paper) st.heap.objs.size f cdv))) (hgd : (A.deeper (PyProof.Rows.envOfC "require_paper" (defScope s_require_paper) st.heap.objs.size f cdv)).guards = some []) :
    DSs (cxOf CX0 P w K mg base N_require_paper "require_paper" (defScope s_require_paper) f cdv A out st H E).nox (defBody s_require_paper) (r_require_paper) := by
  have SC := sc_require_paper
  have hu := hu_of hr
  have hu64 := hr.units
  have hu70 := hu70_of hr
  exact (ds_one (ds_if (dt_not (dt_tru (dv 0)))
  (ds_one ds_never)
  ds_nil))

theorem d_require_paper {P : Program} {w : World} {K : PySem.W.Frag} {mg : Str → Option Value} {base : Heap} {k : Nat} {f : Addr} {fd : FuncData} {sp : DSp} (T : Tx w K mg)   
    (F : FunD K "require_paper" "require_paper" (defArgs s_require_paper) (defBody s_require_paper) (defScope s_require_paper) [] [] f fd) (len : ∀ ds G Q E, sp ds G Q E → ds.length = 3)
    (ok : ∀ ds G Q E, sp ds G Q E → (r_require_paper) { nx := fun _ G' => Q .non G', rt := Q } (startD 3 ds) G) : DFn P w K mg base (k + 1) f fd P_require_paper sp :=
  dfn_of F sc_require_paper len (b_require_paper T) ok

theorem k_require_paper {P : Program} {w : World} {K : PySem.W.Frag} {mg : Str → Option Value} {base : Heap} {k : Nat} {f : Addr} {fd : FuncData} {sp : DSp} (T : Tx w K mg)   
    (F : FunD K "require_paper" "require_paper" (defArgs s_require_paper) (defBody s_require_paper) (defScope s_require_paper) [] [] f fd) (hm : mg "require_paper" = some (.ref f)) (len : ∀ ds G Q E, sp ds G Q E → ds.length = 3)
    (ok : ∀ ds G Q E, sp ds G Q E → (r_require_paper) { nx := fun _ G' => Q .non G', rt := Q } (startD 3 ds) G) : Callee P w K mg base (k + 1) "require_paper" P_require_paper sp :=
  callee_of F hm (d_require_paper T F len ok) (fun _ _ _ _ _ _ us hl => match us, hl with | [_, _, _], _ => rfl) (fun _ _ _ _ _ _ us hl => match us, hl with | [_, _, _], _ => rfl)

abbrev N_fewest_ticks : List Str := ["work", "told", "path", "part", "word", "inner", "k"]
abbrev P_fewest_ticks : List Str := ["work"]

theorem sc_fewest_ticks : FnScope N_fewest_ticks P_fewest_ticks (defScope s_fewest_ticks) := ⟨rfl, rfl, rfl, by decide +kernel, rfl, by decide +kernel, by decide +kernel⟩

theorem b_fewest_ticks {P : Program} {w : World} {K : PySem.W.Frag} {mg : Str → Option Value} {base : Heap} {k : Nat} {f : Addr} (T : Tx w K mg) {sp_all_pairs : DSp} (C_all_pairs : Callee P w K mg base k "all_pairs" P_all_pairs sp_all_pairs)  (cdv : Value) (A : Around) (out : List Env) (st : Shared) (H : Hp) (E : XK)
    (hr : Room k (A.deeper (PyProof.Rows.envOfC "fewest_ticks" (defScope s_fewest_ticks) st.heap.objs.size f cdv))) (hgd : (A.deeper (PyProof.Rows.envOfC "fewest_ticks" (defScope s_fewest_ticks) st.heap.objs.size f cdv)).guards = some []) :
    DSs (cxOf CX0 P w K mg base N_fewest_ticks "fewest_ticks" (defScope s_fewest_ticks) f cdv A out st H E).nox (defBody s_fewest_ticks) (r_fewest_ticks sp_all_pairs) := by
  have SC := sc_fewest_ticks
  have hu := hu_of hr
  have hu64 := hr.units
  have hu70 := hu70_of hr
  exact (ds_cons (ds_set (i := 1) SC.nd rfl (by first | exact Or.inl rfl | exact Or.inr rfl) de_newT)
  (ds_cons (ds_for PassesOwn.never rfl (di_seq (de_frz (de_rev (dc C_all_pairs hr hgd rfl (da_cons (dv 0) da_nil))))) (dg_tup rfl (dgs_cons (dg_name (i := 2) SC.nd rfl (by first | exact Or.inl rfl | exact Or.inr rfl)) (dgs_cons (dg_name (i := 3) SC.nd rfl (by first | exact Or.inl rfl | exact Or.inr rfl)) dgs_nil)))
  (ds_cons (ds_set (i := 4) SC.nd rfl (by first | exact Or.inl rfl | exact Or.inr rfl) (de_ix (dv 3) de_int))
  (ds_one (ds_if (dt_cmp o_in (dv 4) (de_tup (da_cons de_str (da_cons de_str da_nil))) rfl)
  (ds_one (ds_asg (de_ix (dv 3) de_int) (dg_sub (dv 1) (dv 2) (set_dtp T.kno hu))))
  (ds_one (ds_if (dt_cmp (o_eq hu64) (dv 4) de_str (nomark _))
  (ds_one (ds_asg (de_op o_mul (de_ix (dv 3) de_int) (de_dgetT T.kno hu (dv 1) (de_op o_add (dv 2) (de_tup (da_cons de_int da_nil))))) (dg_sub (dv 1) (dv 2) (set_dtp T.kno hu))))
  (ds_one (ds_if (dt_cmp (o_eq hu64) (dv 4) de_str (nomark _))
  (ds_one (ds_asg (de_op o_add (de_dgetT T.kno hu (dv 1) (de_op o_add (dv 2) (de_tup (da_cons de_int da_nil)))) (de_dgetT T.kno hu (dv 1) (de_op o_add (dv 2) (de_tup (da_cons de_int da_nil))))) (dg_sub (dv 1) (dv 2) (set_dtp T.kno hu))))
  (ds_cons (ds_setLcF (i := 5) (own := [("k", 6)]) (ct := (.one 6)) rfl SC.nd rfl rfl (sw_true rfl rfl rfl (by decide +kernel)) (di_range1 rfl T.m_range (da_cons (de_callB c_len rfl T.m_len PySem.boot_len (da_cons (de_ix (dv 3) de_int) da_nil)) da_nil)) (blkOk_by (by show blkC N_fewest_ticks (defScope s_fewest_ticks) _ _ = true; decide +kernel)) (by decide) (fun _ _ _ _ _ => pg_name (i := 6) SC.nd rfl (Or.inl rfl)) (fun _ _ _ _ _ => dts_nil) (fun _ _ _ _ _ => (de_dgetT T.kno hu (dv 1) (de_op o_add (dv 2) (de_tup (da_cons (dv 6) da_nil))))))
  (ds_one (ds_asg (de_if (dt_cmp (o_eq hu64) (dv 4) de_str (nomark _)) (de_callB (c_sum rfl) rfl T.m_sum (by decide +kernel) (da_cons (dv 5) da_nil)) (de_callB (c_min rfl) rfl T.m_min (by decide +kernel) (da_cons (dv 5) da_nil))) (dg_sub (dv 1) (dv 2) (set_dtp T.kno hu)))))))))))))
  (ds_one (ds_ret (de_dgetT T.kno hu (dv 1) (de_tup da_nil))))))

theorem d_fewest_ticks {P : Program} {w : World} {K : PySem.W.Frag} {mg : Str → Option Value} {base : Heap} {k : Nat} {f : Addr} {fd : FuncData} {sp : DSp} (T : Tx w K mg) {sp_all_pairs : DSp} (C_all_pairs : Callee P w K mg base k "all_pairs" P_all_pairs sp_all_pairs) 
    (F : FunD K "fewest_ticks" "fewest_ticks" (defArgs s_fewest_ticks) (defBody s_fewest_ticks) (defScope s_fewest_ticks) [] [] f fd) (len : ∀ ds G Q E, sp ds G Q E → ds.length = 1)
    (ok : ∀ ds G Q E, sp ds G Q E → (r_fewest_ticks sp_all_pairs) { nx := fun _ G' => Q .non G', rt := Q } (startD 7 ds) G) : DFn P w K mg base (k + 1) f fd P_fewest_ticks sp :=
  dfn_of F sc_fewest_ticks len (b_fewest_ticks T C_all_pairs) ok

theorem k_fewest_ticks {P : Program} {w : World} {K : PySem.W.Frag} {mg : Str → Option Value} {base : Heap} {k : Nat} {f : Addr} {fd : FuncData} {sp : DSp} (T : Tx w K mg) {sp_all_pairs : DSp} (C_all_pairs : Callee P w K mg base k "all_pairs" P_all_pairs sp_all_pairs) 
    (F : FunD K "fewest_ticks" "fewest_ticks" (defArgs s_fewest_ticks) (defBody s_fewest_ticks) (defScope s_fewest_ticks) [] [] f fd) (hm : mg "fewest_ticks" = some (.ref f)) (len : ∀ ds G Q E, sp ds G Q E → ds.length = 1)
    (ok : ∀ ds G Q E, sp ds G Q E → (r_fewest_ticks sp_all_pairs) { nx := fun _ G' => Q .non G', rt := Q } (startD 7 ds) G) : Callee P w K mg base (k + 1) "fewest_ticks" P_fewest_ticks sp :=
  callee_of F hm (d_fewest_ticks T C_all_pairs F len ok) (fun _ _ _ _ _ _ us hl => match us, hl with | [_], _ => rfl) (fun _ _ _ _ _ _ us hl => match us, hl with | [_], _ => rfl)

abbrev N_lets_work : List Str := ["thing", "fault", "word", "path"]
abbrev P_lets_work : List Str := ["thing"]

theorem sc_lets_work : FnScope N_lets_work P_lets_work (defScope s_lets_work) := ⟨rfl, rfl, rfl, by decide +kernel, rfl, by decide +kernel, by decide +kernel⟩

theorem b_lets_work {P : Program} {w : World} {K : PySem.W.Frag} {mg : Str → Option Value} {base : Heap} {k : Nat} {f : Addr} (T : Tx w K mg) {sp_all_pairs : DSp} {sp_require_paper : DSp} {sp_fewest_ticks : DSp} {sp_work_fault : DSp} (C_all_pairs : Callee P w K mg base k "all_pairs" P_all_pairs sp_all_pairs) (C_require_paper : Callee P w K mg base k "require_paper" P_require_paper sp_require_paper) (C_fewest_ticks : Callee P w K mg base k "fewest_ticks" P_fewest_ticks sp_fewest_ticks) (C_work_fault : Callee P w K mg base k "work_fault" P_work_fault sp_work_fault)  (cdv : Value) (A : Around) (out : List Env) (st : Shared) (H : Hp) (E : XK)
    (hr : Room k (A.deeper (PyProof.Rows.envOfC "lets_work" (defScope s_lets_work) st.heap.objs.size f cdv))) (hgd : (A.deeper (PyProof.Rows.envOfC "lets_work" (defScope s_lets_work) st.heap.objs.size f cdv)).guards = some []) :
    DSs (cxOf CX0 P w K mg base N_lets_work "lets_work" (defScope s_lets_work) f cdv A out st H E).nox (defBody s_lets_work) (r_lets_work sp_all_pairs sp_require_paper sp_fewest_ticks sp_work_fault) := by
  have SC := sc_lets_work
  have hu := hu_of hr
  have hu64 := hr.units
  have hu70 := hu70_of hr
  exact (ds_cons (ds_set (i := 1) SC.nd rfl (by first | exact Or.inl rfl | exact Or.inr rfl) (dc C_work_fault hr hgd rfl (da_cons (dv 0) da_nil)))
  (ds_cons (ds_if (dt_cmp o_notN (dv 1) de_non (nomark _))
  (ds_cons (ds_asg (dv 1) (dg_tup rfl (dgs_cons (dg_name (i := 2) SC.nd rfl (by first | exact Or.inl rfl | exact Or.inr rfl)) (dgs_cons (dg_name (i := 3) SC.nd rfl (by first | exact Or.inl rfl | exact Or.inr rfl)) dgs_nil))))
  (ds_one ds_never))
  ds_nil)
  (ds_cons (ds_expr (dc C_require_paper hr hgd rfl (da_cons (de_cmp o_gt (dc C_fewest_ticks hr hgd rfl (da_cons (dv 0) da_nil)) de_int (nomark _)) (da_cons de_str (da_cons (de_neg de_int) da_nil)))))
  (ds_one (ds_ret (de_callB c_len rfl T.m_len PySem.boot_len (da_cons (dc C_all_pairs hr hgd rfl (da_cons (dv 0) da_nil)) da_nil)))))))

theorem d_lets_work {P : Program} {w : World} {K : PySem.W.Frag} {mg : Str → Option Value} {base : Heap} {k : Nat} {f : Addr} {fd : FuncData} {sp : DSp} (T : Tx w K mg) {sp_all_pairs : DSp} {sp_require_paper : DSp} {sp_fewest_ticks : DSp} {sp_work_fault : DSp} (C_all_pairs : Callee P w K mg base k "all_pairs" P_all_pairs sp_all_pairs) (C_require_paper : Callee P w K mg base k "require_paper" P_require_paper sp_require_paper) (C_fewest_ticks : Callee P w K mg base k "fewest_ticks" P_fewest_ticks sp_fewest_ticks) (C_work_fault : Callee P w K mg base k "work_fault" P_work_fault sp_work_fault) 
    (F : FunD K "lets_work" "lets_work" (defArgs s_lets_work) (defBody s_lets_work) (defScope s_lets_work) [] [] f fd) (len : ∀ ds G Q E, sp ds G Q E → ds.length = 1)
    (ok : ∀ ds G Q E, sp ds G Q E → (r_lets_work sp_all_pairs sp_require_paper sp_fewest_ticks sp_work_fault) { nx := fun _ G' => Q .non G', rt := Q } (startD 4 ds) G) : DFn P w K mg base (k + 1) f fd P_lets_work sp :=
  dfn_of F sc_lets_work len (b_lets_work T C_all_pairs C_require_paper C_fewest_ticks C_work_fault) ok

theorem k_lets_work {P : Program} {w : World} {K : PySem.W.Frag} {mg : Str → Option Value} {base : Heap} {k : Nat} {f : Addr} {fd : FuncData} {sp : DSp} (T : Tx w K mg) {sp_all_pairs : DSp} {sp_require_paper : DSp} {sp_fewest_ticks : DSp} {sp_work_fault : DSp} (C_all_pairs : Callee P w K mg base k "all_pairs" P_all_pairs sp_all_pairs) (C_require_paper : Callee P w K mg base k "require_paper" P_require_paper sp_require_paper) (C_fewest_ticks : Callee P w K mg base k "fewest_ticks" P_fewest_ticks sp_fewest_ticks) (C_work_fault : Callee P w K mg base k "work_fault" P_work_fault sp_work_fault) 
    (F : FunD K "lets_work" "lets_work" (defArgs s_lets_work) (defBody s_lets_work) (defScope s_lets_work) [] [] f fd) (hm : mg "lets_work" = some (.ref f)) (len : ∀ ds G Q E, sp ds G Q E → ds.length = 1)
    (ok : ∀ ds G Q E, sp ds G Q E → (r_lets_work sp_all_pairs sp_require_paper sp_fewest_ticks sp_work_fault) { nx := fun _ G' => Q .non G', rt := Q } (startD 4 ds) G) : Callee P w K mg base (k + 1) "lets_work" P_lets_work sp :=
  callee_of F hm (d_lets_work T C_all_pairs C_require_paper C_fewest_ticks C_work_fault F len ok) (fun _ _ _ _ _ _ us hl => match us, hl with | [_], _ => rfl) (fun _ _ _ _ _ _ us hl => match us, hl with | [_], _ => rfl)

abbrev N_law_feed : List Str := ["_law_script"]
abbrev P_law_feed : List Str := ["_law_script"]

theorem sc_law_feed : FnScope N_law_feed P_law_feed (defScope s_law_feed) := ⟨rfl, rfl, rfl, by decide +kernel, rfl, by decide +kernel, by decide +kernel⟩

theorem b_law_feed {P : Program} {w : World} {K : PySem.W.Frag} {mg : Str → Option Value} {base : Heap} {k : Nat} {f : Addr} (T : Tx w K mg)    (cdv : Value) (A : Around) (out : List Env) (st : Shared) (H : Hp) (E : XK)
    (hr : Room k (A.deeper (PyProof.Rows.envOfC "_law_feed" (defScope s_law_feed) st.heap.objs.size f cdv))) (hgd : (A.deeper (PyProof.Rows.envOfC "_law_feed" (defScope s_law_feed) st.heap.objs.size f cdv)).guards = some []) :
    DSs (cxOf CX0 P w K mg base N_law_feed "_law_feed" (defScope s_law_feed) f cdv A out st H E).nox (defBody s_law_feed) (r_law_feed) := by
  have SC := sc_law_feed
  have hu := hu_of hr
  have hu64 := hr.units
  have hu70 := hu70_of hr
  exact (ds_one (ds_ret (de_disp (dps_cons de_str (de_frz (de_callTy c_list rfl T.m_list (by decide +kernel) (da_cons (de_frz (de_slice (dv 0) do_none (do_some de_int))) da_nil))) (dps_cons de_str de_int (dps_cons de_str de_int (dps_cons de_str de_int dps_nil)))))))

theorem d_law_feed {P : Program} {w : World} {K : PySem.W.Frag} {mg : Str → Option Value} {base : Heap} {k : Nat} {f : Addr} {fd : FuncData} {sp : DSp} (T : Tx w K mg)   
    (F : FunD K "_law_feed" "_law_feed" (defArgs s_law_feed) (defBody s_law_feed) (defScope s_law_feed) [] [] f fd) (len : ∀ ds G Q E, sp ds G Q E → ds.length = 1)
    (ok : ∀ ds G Q E, sp ds G Q E → (r_law_feed) { nx := fun _ G' => Q .non G', rt := Q } (startD 1 ds) G) : DFn P w K mg base (k + 1) f fd P_law_feed sp :=
  dfn_of F sc_law_feed len (b_law_feed T) ok

theorem k_law_feed {P : Program} {w : World} {K : PySem.W.Frag} {mg : Str → Option Value} {base : Heap} {k : Nat} {f : Addr} {fd : FuncData} {sp : DSp} (T : Tx w K mg)   
    (F : FunD K "_law_feed" "_law_feed" (defArgs s_law_feed) (defBody s_law_feed) (defScope s_law_feed) [] [] f fd) (hm : mg "_law_feed" = some (.ref f)) (len : ∀ ds G Q E, sp ds G Q E → ds.length = 1)
    (ok : ∀ ds G Q E, sp ds G Q E → (r_law_feed) { nx := fun _ G' => Q .non G', rt := Q } (startD 1 ds) G) : Callee P w K mg base (k + 1) "_law_feed" P_law_feed sp :=
  callee_of F hm (d_law_feed T F len ok) (fun _ _ _ _ _ _ us hl => match us, hl with | [_], _ => rfl) (fun _ _ _ _ _ _ us hl => match us, hl with | [_], _ => rfl)

abbrev N_law_draw : List Str := ["_law_feed_here", "_law_many", "_law_digit", "_law_spot", "_law_cell", "_law_mixed"]
abbrev P_law_draw : List Str := ["_law_feed_here", "_law_many"]

theorem sc_law_draw : FnScope N_law_draw P_law_draw (defScope s_law_draw) := ⟨rfl, rfl, rfl, by decide +kernel, rfl, by decide +kernel, by decide +kernel⟩

theorem b_law_draw {P : Program} {w : World} {K : PySem.W.Frag} {mg : Str → Option Value} {base : Heap} {k : Nat} {f : Addr} (T : Tx w K mg)    (cdv : Value) (A : Around) (out : List Env) (st : Shared) (H : Hp) (E : XK)
    (hr : Room k (A.deeper (PyProof.Rows.envOfC "_law_draw" (defScope s_law_draw) st.heap.objs.size f cdv))) (hgd : (A.deeper (PyProof.Rows.envOfC "_law_draw" (defScope s_law_draw) st.heap.objs.size f cdv)).guards = some []) :
    DSs (cxOf CX0 P w K mg base N_law_draw "_law_draw" (defScope s_law_draw) f cdv A out st H E).nox (defBody s_law_draw) (r_law_draw) := by
  have SC := sc_law_draw
  have hu := hu_of hr
  have hu64 := hr.units
  have hu70 := hu70_of hr
  exact (ds_cons (ds_asg (de_op o_add (de_dget hu (dv 0) de_str) de_int) (dg_sub (dv 0) de_str (set_dct hu)))
  (ds_cons (ds_if (dt_cmp o_gt (de_dget hu (dv 0) de_str) de_int (nomark _))
  (ds_cons (ds_set (i := 2) SC.nd rfl (by first | exact Or.inl rfl | exact Or.inr rfl) (de_op o_mod (de_callTy c_int rfl T.m_int (by decide +kernel) (da_cons (de_dget hu (dv 0) de_str) da_nil)) (dv 1)))
  (ds_cons (ds_asg (de_op o_fdiv (de_dget hu (dv 0) de_str) (dv 1)) (dg_sub (dv 0) de_str (set_dct hu)))
  (ds_one (ds_ret (dv 2)))))
  ds_nil)
  (ds_cons (ds_set (i := 3) SC.nd rfl (by first | exact Or.inl rfl | exact Or.inr rfl) (de_dget hu (dv 0) de_str))
  (ds_cons (ds_asg (de_op o_add (dv 3) de_int) (dg_sub (dv 0) de_str (set_dct hu)))
  (ds_cons (ds_set (i := 4) SC.nd rfl (by first | exact Or.inl rfl | exact Or.inr rfl) (de_if (dt_cmp (o_ne hu64) (de_dget hu (dv 0) de_str) (de_frz (de_lst da_nil)) (nomark _)) (de_ix (de_dget hu (dv 0) de_str) (de_op o_mod (de_callTy c_int rfl T.m_int (by decide +kernel) (da_cons (dv 3) da_nil)) (de_callB c_len rfl T.m_len PySem.boot_len (da_cons (de_dget hu (dv 0) de_str) da_nil)))) de_int))
  (ds_cons (ds_if (dt_w (dw_and (dt_cmp o_ge (dv 4) (de_op o_pow de_int de_int) (nomark _)) (dw_and1 (dt_cmp o_lt (dv 3) (de_callB c_len rfl T.m_len PySem.boot_len (da_cons (de_dget hu (dv 0) de_str) da_nil)) (nomark _)))))
  (ds_cons (ds_asg (de_op o_fdiv (dv 4) (dv 1)) (dg_sub (dv 0) de_str (set_dct hu)))
  (ds_one (ds_ret (de_op o_mod (de_callTy c_int rfl T.m_int (by decide +kernel) (da_cons (dv 4) da_nil)) (dv 1)))))
  ds_nil)
  (ds_cons (ds_set (i := 5) SC.nd rfl (by first | exact Or.inl rfl | exact Or.inr rfl) (de_op o_mod (de_callTy c_int rfl T.m_int (by decide +kernel) (da_cons (de_op o_add (de_op o_add (de_op o_mod (de_callTy c_int rfl T.m_int (by decide +kernel) (da_cons (dv 4) da_nil)) de_int) (de_op o_mul de_int (de_dget hu (dv 0) de_str))) de_int) da_nil)) de_int))
  (ds_cons (ds_set (i := 5) SC.nd rfl (by first | exact Or.inl rfl | exact Or.inr rfl) (de_op o_mod (de_callTy c_int rfl T.m_int (by decide +kernel) (da_cons (de_op o_add (de_op o_add (de_op o_mul (dv 5) (dv 5)) (de_op o_mul de_int (de_dget hu (dv 0) de_str))) de_int) da_nil)) de_int))
  (ds_one (ds_ret (de_op o_mod (de_callTy c_int rfl T.m_int (by decide +kernel) (da_cons (de_op o_fdiv (de_op o_mod (de_callTy c_int rfl T.m_int (by decide +kernel) (da_cons (de_op o_add (de_op o_mul (dv 5) (dv 5)) (de_op o_mul de_int (dv 5))) da_nil)) de_int) de_int) da_nil)) (dv 1))))))))))))

theorem d_law_draw {P : Program} {w : World} {K : PySem.W.Frag} {mg : Str → Option Value} {base : Heap} {k : Nat} {f : Addr} {fd : FuncData} {sp : DSp} (T : Tx w K mg)   
    (F : FunD K "_law_draw" "_law_draw" (defArgs s_law_draw) (defBody s_law_draw) (defScope s_law_draw) [] [] f fd) (len : ∀ ds G Q E, sp ds G Q E → ds.length = 2)
    (ok : ∀ ds G Q E, sp ds G Q E → (r_law_draw) { nx := fun _ G' => Q .non G', rt := Q } (startD 6 ds) G) : DFn P w K mg base (k + 1) f fd P_law_draw sp :=
  dfn_of F sc_law_draw len (b_law_draw T) ok

theorem k_law_draw {P : Program} {w : World} {K : PySem.W.Frag} {mg : Str → Option Value} {base : Heap} {k : Nat} {f : Addr} {fd : FuncData} {sp : DSp} (T : Tx w K mg)   
    (F : FunD K "_law_draw" "_law_draw" (defArgs s_law_draw) (defBody s_law_draw) (defScope s_law_draw) [] [] f fd) (hm : mg "_law_draw" = some (.ref f)) (len : ∀ ds G Q E, sp ds G Q E → ds.length = 2)
    (ok : ∀ ds G Q E, sp ds G Q E → (r_law_draw) { nx := fun _ G' => Q .non G', rt := Q } (startD 6 ds) G) : Callee P w K mg base (k + 1) "_law_draw" P_law_draw sp :=
  callee_of F hm (d_law_draw T F len ok) (fun _ _ _ _ _ _ us hl => match us, hl with | [_, _], _ => rfl) (fun _ _ _ _ _ _ us hl => match us, hl with | [_, _], _ => rfl)

abbrev N_law_subs : List Str := ["_law_item"]
abbrev P_law_subs : List Str := ["_law_item"]

theorem sc_law_subs : FnScope N_law_subs P_law_subs (defScope s_law_subs) := ⟨rfl, rfl, rfl, by decide +kernel, rfl, by decide +kernel, by decide +kernel⟩

theorem b_law_subs {P : Program} {w : World} {K : PySem.W.Frag} {mg : Str → Option Value} {base : Heap} {k : Nat} {f : Addr} (T : Tx w K mg)    (cdv : Value) (A : Around) (out : List Env) (st : Shared) (H : Hp) (E : XK)
    (hr : Room k (A.deeper (PyProof.Rows.envOfC "_law_subs" (defScope s_law_subs) st.heap.objs.size f cdv))) (hgd : (A.deeper (PyProof.Rows.envOfC "_law_subs" (defScope s_law_subs) st.heap.objs.size f cdv)).guards = some []) :
    DSs (cxOf CX0 P w K mg base N_law_subs "_law_subs" (defScope s_law_subs) f cdv A out st H E).nox (defBody s_law_subs) (r_law_subs) := by
  have SC := sc_law_subs
  have hu := hu_of hr
  have hu64 := hr.units
  have hu70 := hu70_of hr
  exact (ds_cons (ds_if (dt_cmp o_in (de_ix (dv 0) de_int) (de_tup (da_cons de_str (da_cons de_str da_nil))) rfl)
  (ds_one (ds_ret (de_callTy c_list rfl T.m_list (by decide +kernel) (da_cons (de_ix (dv 0) de_int) da_nil))))
  ds_nil)
  (ds_cons (ds_if (dt_cmp (o_eq hu64) (de_ix (dv 0) de_int) de_str (nomark _))
  (ds_one (ds_ret (de_lst (da_cons (de_ix (dv 0) de_int) (da_cons (de_ix (dv 0) de_int) da_nil)))))
  ds_nil)
  (ds_one (ds_ret (de_if (dt_cmp (o_eq hu64) (de_ix (dv 0) de_int) de_str (nomark _)) (de_lst (da_cons (de_ix (dv 0) de_int) da_nil)) (de_lst da_nil))))))

theorem d_law_subs {P : Program} {w : World} {K : PySem.W.Frag} {mg : Str → Option Value} {base : Heap} {k : Nat} {f : Addr} {fd : FuncData} {sp : DSp} (T : Tx w K mg)   
    (F : FunD K "_law_subs" "_law_subs" (defArgs s_law_subs) (defBody s_law_subs) (defScope s_law_subs) [] [] f fd) (len : ∀ ds G Q E, sp ds G Q E → ds.length = 1)
    (ok : ∀ ds G Q E, sp ds G Q E → (r_law_subs) { nx := fun _ G' => Q .non G', rt := Q } (startD 1 ds) G) : DFn P w K mg base (k + 1) f fd P_law_subs sp :=
  dfn_of F sc_law_subs len (b_law_subs T) ok

theorem k_law_subs {P : Program} {w : World} {K : PySem.W.Frag} {mg : Str → Option Value} {base : Heap} {k : Nat} {f : Addr} {fd : FuncData} {sp : DSp} (T : Tx w K mg)   
    (F : FunD K "_law_subs" "_law_subs" (defArgs s_law_subs) (defBody s_law_subs) (defScope s_law_subs) [] [] f fd) (hm : mg "_law_subs" = some (.ref f)) (len : ∀ ds G Q E, sp ds G Q E → ds.length = 1)
    (ok : ∀ ds G Q E, sp ds G Q E → (r_law_subs) { nx := fun _ G' => Q .non G', rt := Q } (startD 1 ds) G) : Callee P w K mg base (k + 1) "_law_subs" P_law_subs sp :=
  callee_of F hm (d_law_subs T F len ok) (fun _ _ _ _ _ _ us hl => match us, hl with | [_], _ => rfl) (fun _ _ _ _ _ _ us hl => match us, hl with | [_], _ => rfl)

abbrev N_law_fewest : List Str := ["_law_item", "_law_some", "_law_own"]
abbrev P_law_fewest : List Str := ["_law_item"]

theorem sc_law_fewest : FnScope N_law_fewest P_law_fewest (defScope s_law_fewest) := ⟨rfl, rfl, rfl, by decide +kernel, rfl, by decide +kernel, by decide +kernel⟩

theorem b_law_fewest {P : Program} {w : World} {K : PySem.W.Frag} {mg : Str → Option Value} {base : Heap} {k : Nat} {f : Addr} (T : Tx w K mg) {sp_law_subs : DSp} {sp_law_fewest : DSp} (C_law_subs : Callee P w K mg base k "_law_subs" P_law_subs sp_law_subs) (C_law_fewest : Callee P w K mg base k "_law_fewest" P_law_fewest sp_law_fewest)  (cdv : Value) (A : Around) (out : List Env) (st : Shared) (H : Hp) (E : XK)
    (hr : Room k (A.deeper (PyProof.Rows.envOfC "_law_fewest" (defScope s_law_fewest) st.heap.objs.size f cdv))) (hgd : (A.deeper (PyProof.Rows.envOfC "_law_fewest" (defScope s_law_fewest) st.heap.objs.size f cdv)).guards = some []) :
    DSs (cxOf CX0 P w K mg base N_law_fewest "_law_fewest" (defScope s_law_fewest) f cdv A out st H E).nox (defBody s_law_fewest) (r_law_fewest sp_law_subs sp_law_fewest) := by
  have SC := sc_law_fewest
  have hu := hu_of hr
  have hu64 := hr.units
  have hu70 := hu70_of hr
  exact (ds_cons (ds_if (dt_cmp o_in (de_ix (dv 0) de_int) (de_tup (da_cons de_str (da_cons de_str da_nil))) rfl)
  (ds_one (ds_ret (de_ix (dv 0) de_int)))
  ds_nil)
  (ds_cons (ds_setLcF (i := 1) (own := [("_law_own", 2)]) (ct := (.one 2)) rfl SC.nd rfl rfl (sw_true rfl rfl rfl (by decide +kernel)) (di_seq (de_frz (dc C_law_subs hr hgd rfl (da_cons (dv 0) da_nil)))) (blkOk_by (by show blkC N_law_fewest (defScope s_law_fewest) _ _ = true; decide +kernel)) (by decide) (fun _ _ _ _ _ => pg_name (i := 2) SC.nd rfl (Or.inl rfl)) (fun _ _ _ _ _ => dts_nil) (fun _ _ _ _ _ => (dc C_law_fewest hr hgd rfl (da_cons (dv 2) da_nil))))
  (ds_cons (ds_if (dt_cmp (o_eq hu64) (de_ix (dv 0) de_int) de_str (nomark _))
  (ds_one (ds_ret (de_callB (c_min rfl) rfl T.m_min (by decide +kernel) (da_cons (dv 1) da_nil))))
  ds_nil)
  (ds_one (ds_ret (de_if (dt_cmp (o_eq hu64) (de_ix (dv 0) de_int) de_str (nomark _)) (de_op o_mul (de_ix (dv 0) de_int) (de_ix (dv 1) de_int)) (de_callB (c_sum rfl) rfl T.m_sum (by decide +kernel) (da_cons (dv 1) da_nil))))))))

theorem d_law_fewest {P : Program} {w : World} {K : PySem.W.Frag} {mg : Str → Option Value} {base : Heap} {k : Nat} {f : Addr} {fd : FuncData} {sp : DSp} (T : Tx w K mg) {sp_law_subs : DSp} {sp_law_fewest : DSp} (C_law_subs : Callee P w K mg base k "_law_subs" P_law_subs sp_law_subs) (C_law_fewest : Callee P w K mg base k "_law_fewest" P_law_fewest sp_law_fewest) 
    (F : FunD K "_law_fewest" "_law_fewest" (defArgs s_law_fewest) (defBody s_law_fewest) (defScope s_law_fewest) [] [] f fd) (len : ∀ ds G Q E, sp ds G Q E → ds.length = 1)
    (ok : ∀ ds G Q E, sp ds G Q E → (r_law_fewest sp_law_subs sp_law_fewest) { nx := fun _ G' => Q .non G', rt := Q } (startD 3 ds) G) : DFn P w K mg base (k + 1) f fd P_law_fewest sp :=
  dfn_of F sc_law_fewest len (b_law_fewest T C_law_subs C_law_fewest) ok

theorem k_law_fewest {P : Program} {w : World} {K : PySem.W.Frag} {mg : Str → Option Value} {base : Heap} {k : Nat} {f : Addr} {fd : FuncData} {sp : DSp} (T : Tx w K mg) {sp_law_subs : DSp} {sp_law_fewest : DSp} (C_law_subs : Callee P w K mg base k "_law_subs" P_law_subs sp_law_subs) (C_law_fewest : Callee P w K mg base k "_law_fewest" P_law_fewest sp_law_fewest) 
    (F : FunD K "_law_fewest" "_law_fewest" (defArgs s_law_fewest) (defBody s_law_fewest) (defScope s_law_fewest) [] [] f fd) (hm : mg "_law_fewest" = some (.ref f)) (len : ∀ ds G Q E, sp ds G Q E → ds.length = 1)
    (ok : ∀ ds G Q E, sp ds G Q E → (r_law_fewest sp_law_subs sp_law_fewest) { nx := fun _ G' => Q .non G', rt := Q } (startD 3 ds) G) : Callee P w K mg base (k + 1) "_law_fewest" P_law_fewest sp :=
  callee_of F hm (d_law_fewest T C_law_subs C_law_fewest F len ok) (fun _ _ _ _ _ _ us hl => match us, hl with | [_], _ => rfl) (fun _ _ _ _ _ _ us hl => match us, hl with | [_], _ => rfl)

theorem z_law_fewest {P : Program} {w : World} {K : PySem.W.Frag} {mg : Str → Option Value} {base : Heap} {f : Addr} {fd : FuncData} {sp : DSp} (F : FunD K "_law_fewest" "_law_fewest" (defArgs s_law_fewest) (defBody s_law_fewest) (defScope s_law_fewest) [] [] f fd) (hm : mg "_law_fewest" = some (.ref f)) (h : ∀ ds G Q E, ¬ sp ds G Q E) : Callee P w K mg base 0 "_law_fewest" P_law_fewest sp :=
  callee0 F hm h (fun _ _ _ _ _ _ us hl => match us, hl with | [_], _ => rfl) (fun _ _ _ _ _ _ us hl => match us, hl with | [_], _ => rfl)

abbrev N_law_bounds : List Str := ["_law_feed_here", "_law_low"]
abbrev P_law_bounds : List Str := ["_law_feed_here"]

theorem sc_law_bounds : FnScope N_law_bounds P_law_bounds (defScope s_law_bounds) := ⟨rfl, rfl, rfl, by decide +kernel, rfl, by decide +kernel, by decide +kernel⟩

theorem b_law_bounds {P : Program} {w : World} {K : PySem.W.Frag} {mg : Str → Option Value} {base : Heap} {k : Nat} {f : Addr} (T : Tx w K mg) {sp_law_draw : DSp} (C_law_draw : Callee P w K mg base k "_law_draw" P_law_draw sp_law_draw)  (cdv : Value) (A : Around) (out : List Env) (st : Shared) (H : Hp) (E : XK)
    (hr : Room k (A.deeper (PyProof.Rows.envOfC "_law_bounds" (defScope s_law_bounds) st.heap.objs.size f cdv))) (hgd : (A.deeper (PyProof.Rows.envOfC "_law_bounds" (defScope s_law_bounds) st.heap.objs.size f cdv)).guards = some []) :
    DSs (cxOf CX0 P w K mg base N_law_bounds "_law_bounds" (defScope s_law_bounds) f cdv A out st H E).nox (defBody s_law_bounds) (r_law_bounds sp_law_draw) := by
  have SC := sc_law_bounds
  have hu := hu_of hr
  have hu64 := hr.units
  have hu70 := hu70_of hr
  exact (ds_cons (ds_set (i := 1) SC.nd rfl (by first | exact Or.inl rfl | exact Or.inr rfl) (de_ix (de_frz (de_lst (da_cons de_int (da_cons de_int (da_cons de_int (da_cons de_int (da_cons de_int da_nil))))))) (dc C_law_draw hr hgd rfl (da_cons (dv 0) (da_cons de_int da_nil)))))
  (ds_one (ds_ret (de_tup (da_cons (dv 1) (da_cons (de_op o_add (dv 1) (de_ix (de_frz (de_lst (da_cons de_int (da_cons de_int (da_cons de_int (da_cons de_int da_nil)))))) (dc C_law_draw hr hgd rfl (da_cons (dv 0) (da_cons de_int da_nil))))) (da_cons (de_cmp (o_eq hu64) (dc C_law_draw hr hgd rfl (da_cons (dv 0) (da_cons de_int da_nil))) de_int (nomark _)) da_nil)))))))

theorem d_law_bounds {P : Program} {w : World} {K : PySem.W.Frag} {mg : Str → Option Value} {base : Heap} {k : Nat} {f : Addr} {fd : FuncData} {sp : DSp} (T : Tx w K mg) {sp_law_draw : DSp} (C_law_draw : Callee P w K mg base k "_law_draw" P_law_draw sp_law_draw) 
    (F : FunD K "_law_bounds" "_law_bounds" (defArgs s_law_bounds) (defBody s_law_bounds) (defScope s_law_bounds) [] [] f fd) (len : ∀ ds G Q E, sp ds G Q E → ds.length = 1)
    (ok : ∀ ds G Q E, sp ds G Q E → (r_law_bounds sp_law_draw) { nx := fun _ G' => Q .non G', rt := Q } (startD 2 ds) G) : DFn P w K mg base (k + 1) f fd P_law_bounds sp :=
  dfn_of F sc_law_bounds len (b_law_bounds T C_law_draw) ok

theorem k_law_bounds {P : Program} {w : World} {K : PySem.W.Frag} {mg : Str → Option Value} {base : Heap} {k : Nat} {f : Addr} {fd : FuncData} {sp : DSp} (T : Tx w K mg) {sp_law_draw : DSp} (C_law_draw : Callee P w K mg base k "_law_draw" P_law_draw sp_law_draw) 
    (F : FunD K "_law_bounds" "_law_bounds" (defArgs s_law_bounds) (defBody s_law_bounds) (defScope s_law_bounds) [] [] f fd) (hm : mg "_law_bounds" = some (.ref f)) (len : ∀ ds G Q E, sp ds G Q E → ds.length = 1)
    (ok : ∀ ds G Q E, sp ds G Q E → (r_law_bounds sp_law_draw) { nx := fun _ G' => Q .non G', rt := Q } (startD 2 ds) G) : Callee P w K mg base (k + 1) "_law_bounds" P_law_bounds sp :=
  callee_of F hm (d_law_bounds T C_law_draw F len ok) (fun _ _ _ _ _ _ us hl => match us, hl with | [_], _ => rfl) (fun _ _ _ _ _ _ us hl => match us, hl with | [_], _ => rfl)

abbrev N_law_free_work : List Str := ["_law_feed_here", "_law_deep", "_law_turn_in", "_law_size", "_law_some", "_law_k"]
abbrev P_law_free_work : List Str := ["_law_feed_here", "_law_deep"]

theorem sc_law_free_work : FnScope N_law_free_work P_law_free_work (defScope s_law_free_work) := ⟨rfl, rfl, rfl, by decide +kernel, rfl, by decide +kernel, by decide +kernel⟩

theorem b_law_free_work {P : Program} {w : World} {K : PySem.W.Frag} {mg : Str → Option Value} {base : Heap} {k : Nat} {f : Addr} (T : Tx w K mg) {sp_law_free_work : DSp} {sp_law_draw : DSp} {sp_law_bounds : DSp} (C_law_free_work : Callee P w K mg base k "_law_free_work" P_law_free_work sp_law_free_work) (C_law_draw : Callee P w K mg base k "_law_draw" P_law_draw sp_law_draw) (C_law_bounds : Callee P w K mg base k "_law_bounds" P_law_bounds sp_law_bounds)  (cdv : Value) (A : Around) (out : List Env) (st : Shared) (H : Hp) (E : XK)
    (hr : Room k (A.deeper (PyProof.Rows.envOfC "_law_free_work" (defScope s_law_free_work) st.heap.objs.size f cdv))) (hgd : (A.deeper (PyProof.Rows.envOfC "_law_free_work" (defScope s_law_free_work) st.heap.objs.size f cdv)).guards = some []) :
    DSs (cxOf CX0 P w K mg base N_law_free_work "_law_free_work" (defScope s_law_free_work) f cdv A out st H E).nox (defBody s_law_free_work) (r_law_free_work sp_law_free_work sp_law_draw sp_law_bounds) := by
  have SC := sc_law_free_work
  have hu := hu_of hr
  have hu64 := hr.units
  have hu70 := hu70_of hr
  exact (ds_cons (ds_set (i := 2) SC.nd rfl (by first | exact Or.inl rfl | exact Or.inr rfl) (de_if (dt_cmp o_gt (dv 1) de_int (nomark _)) (dc C_law_draw hr hgd rfl (da_cons (dv 0) (da_cons de_int da_nil))) (dc C_law_draw hr hgd rfl (da_cons (dv 0) (da_cons de_int da_nil)))))
  (ds_cons (ds_if (dt_cmp o_lt (dv 2) de_int (nomark _))
  (ds_one (ds_ret (de_tup (da_cons de_str (da_cons (de_op o_add de_int (de_ix (de_frz (de_lst (da_cons de_int (da_cons de_int (da_cons de_int (da_cons de_int da_nil)))))) (dc C_law_draw hr hgd rfl (da_cons (dv 0) (da_cons de_int da_nil))))) da_nil)))))
  ds_nil)
  (ds_cons (ds_if (dt_cmp o_lt (dv 2) de_int (nomark _))
  (ds_one (ds_ret (de_op o_add (de_tup (da_cons de_str da_nil)) (dc C_law_bounds hr hgd rfl (da_cons (dv 0) da_nil)))))
  ds_nil)
  (ds_cons (ds_if (dt_cmp o_lt (dv 2) de_int (nomark _))
  (ds_one (ds_ret (de_op o_add (de_op o_add (de_tup (da_cons de_str da_nil)) (dc C_law_bounds hr hgd rfl (da_cons (dv 0) da_nil))) (de_tup (da_cons (dc C_law_free_work hr hgd rfl (da_cons (dv 0) (da_cons (de_op o_sub (dv 1) de_int) da_nil))) da_nil)))))
  ds_nil)
  (ds_cons (ds_if (dt_cmp (o_eq hu64) (dv 2) de_int (nomark _))
  (ds_one (ds_ret (de_tup (da_cons de_str (da_cons (dc C_law_free_work hr hgd rfl (da_cons (dv 0) (da_cons (de_op o_sub (dv 1) de_int) da_nil))) (da_cons (dc C_law_free_work hr hgd rfl (da_cons (dv 0) (da_cons (de_op o_sub (dv 1) de_int) da_nil))) da_nil))))))
  ds_nil)
  (ds_cons (ds_set (i := 3) SC.nd rfl (by first | exact Or.inl rfl | exact Or.inr rfl) (de_if (dt_cmp (o_eq hu64) (dv 2) de_int (nomark _)) (dc C_law_draw hr hgd rfl (da_cons (dv 0) (da_cons de_int da_nil))) (de_op o_add de_int (dc C_law_draw hr hgd rfl (da_cons (dv 0) (da_cons de_int da_nil))))))
  (ds_cons (ds_set (i := 4) SC.nd rfl (by first | exact Or.inl rfl | exact Or.inr rfl) (de_callTy c_tuple rfl T.m_tuple (by decide +kernel) (da_cons (de_frz (de_lc (own := [("_law_k", 5)]) (ct := (.one 5)) rfl SC.nd (di_range1 rfl T.m_range (da_cons (dv 3) da_nil)) (blkOk_by (by show blkC N_law_free_work (defScope s_law_free_work) _ _ = true; decide +kernel)) (by decide) (fun _ _ _ _ _ => pg_name (i := 5) SC.nd rfl (Or.inl rfl)) (fun _ _ _ _ _ => dts_nil) (fun _ _ _ _ _ => (dc C_law_free_work hr hgd rfl (da_cons (dv 0) (da_cons (de_op o_sub (dv 1) de_int) da_nil)))))) da_nil)))
  (ds_one (ds_ret (de_tup (da_cons (de_ix (de_frz (de_lst (da_cons de_str (da_cons de_str da_nil)))) (de_op o_sub (dv 2) de_int)) (da_cons (dv 4) da_nil))))))))))))

theorem d_law_free_work {P : Program} {w : World} {K : PySem.W.Frag} {mg : Str → Option Value} {base : Heap} {k : Nat} {f : Addr} {fd : FuncData} {sp : DSp} (T : Tx w K mg) {sp_law_free_work : DSp} {sp_law_draw : DSp} {sp_law_bounds : DSp} (C_law_free_work : Callee P w K mg base k "_law_free_work" P_law_free_work sp_law_free_work) (C_law_draw : Callee P w K mg base k "_law_draw" P_law_draw sp_law_draw) (C_law_bounds : Callee P w K mg base k "_law_bounds" P_law_bounds sp_law_bounds) 
    (F : FunD K "_law_free_work" "_law_free_work" (defArgs s_law_free_work) (defBody s_law_free_work) (defScope s_law_free_work) [] [] f fd) (len : ∀ ds G Q E, sp ds G Q E → ds.length = 2)
    (ok : ∀ ds G Q E, sp ds G Q E → (r_law_free_work sp_law_free_work sp_law_draw sp_law_bounds) { nx := fun _ G' => Q .non G', rt := Q } (startD 6 ds) G) : DFn P w K mg base (k + 1) f fd P_law_free_work sp :=
  dfn_of F sc_law_free_work len (b_law_free_work T C_law_free_work C_law_draw C_law_bounds) ok

theorem k_law_free_work {P : Program} {w : World} {K : PySem.W.Frag} {mg : Str → Option Value} {base : Heap} {k : Nat} {f : Addr} {fd : FuncData} {sp : DSp} (T : Tx w K mg) {sp_law_free_work : DSp} {sp_law_draw : DSp} {sp_law_bounds : DSp} (C_law_free_work : Callee P w K mg base k "_law_free_work" P_law_free_work sp_law_free_work) (C_law_draw : Callee P w K mg base k "_law_draw" P_law_draw sp_law_draw) (C_law_bounds : Callee P w K mg base k "_law_bounds" P_law_bounds sp_law_bounds) 
    (F : FunD K "_law_free_work" "_law_free_work" (defArgs s_law_free_work) (defBody s_law_free_work) (defScope s_law_free_work) [] [] f fd) (hm : mg "_law_free_work" = some (.ref f)) (len : ∀ ds G Q E, sp ds G Q E → ds.length = 2)
    (ok : ∀ ds G Q E, sp ds G Q E → (r_law_free_work sp_law_free_work sp_law_draw sp_law_bounds) { nx := fun _ G' => Q .non G', rt := Q } (startD 6 ds) G) : Callee P w K mg base (k + 1) "_law_free_work" P_law_free_work sp :=
  callee_of F hm (d_law_free_work T C_law_free_work C_law_draw C_law_bounds F len ok) (fun _ _ _ _ _ _ us hl => match us, hl with | [_, _], _ => rfl) (fun _ _ _ _ _ _ us hl => match us, hl with | [_, _], _ => rfl)

theorem z_law_free_work {P : Program} {w : World} {K : PySem.W.Frag} {mg : Str → Option Value} {base : Heap} {f : Addr} {fd : FuncData} {sp : DSp} (F : FunD K "_law_free_work" "_law_free_work" (defArgs s_law_free_work) (defBody s_law_free_work) (defScope s_law_free_work) [] [] f fd) (hm : mg "_law_free_work" = some (.ref f)) (h : ∀ ds G Q E, ¬ sp ds G Q E) : Callee P w K mg base 0 "_law_free_work" P_law_free_work sp :=
  callee0 F hm h (fun _ _ _ _ _ _ us hl => match us, hl with | [_, _], _ => rfl) (fun _ _ _ _ _ _ us hl => match us, hl with | [_, _], _ => rfl)

abbrev N_law_work : List Str := ["_law_feed_here", "_law_deep", "_law_item"]
abbrev P_law_work : List Str := ["_law_feed_here", "_law_deep"]

theorem sc_law_work : FnScope N_law_work P_law_work (defScope s_law_work) := ⟨rfl, rfl, rfl, by decide +kernel, rfl, by decide +kernel, by decide +kernel⟩

theorem b_law_work {P : Program} {w : World} {K : PySem.W.Frag} {mg : Str → Option Value} {base : Heap} {k : Nat} {f : Addr} (T : Tx w K mg) {sp_law_fewest : DSp} {sp_law_free_work : DSp} (C_law_fewest : Callee P w K mg base k "_law_fewest" P_law_fewest sp_law_fewest) (C_law_free_work : Callee P w K mg base k "_law_free_work" P_law_free_work sp_law_free_work)  (cdv : Value) (A : Around) (out : List Env) (st : Shared) (H : Hp) (E : XK)
    (hr : Room k (A.deeper (PyProof.Rows.envOfC "_law_work" (defScope s_law_work) st.heap.objs.size f cdv))) (hgd : (A.deeper (PyProof.Rows.envOfC "_law_work" (defScope s_law_work) st.heap.objs.size f cdv)).guards = some []) :
    DSs (cxOf CX0 P w K mg base N_law_work "_law_work" (defScope s_law_work) f cdv A out st H E).nox (defBody s_law_work) (r_law_work sp_law_fewest sp_law_free_work) := by
  have SC := sc_law_work
  have hu := hu_of hr
  have hu64 := hr.units
  have hu70 := hu70_of hr
  exact (ds_cons (ds_set (i := 2) SC.nd rfl (by first | exact Or.inl rfl | exact Or.inr rfl) (dc C_law_free_work hr hgd rfl (da_cons (dv 0) (da_cons (dv 1) da_nil))))
  (ds_one (ds_ret (de_if (dt_cmp o_gt (dc C_law_fewest hr hgd rfl (da_cons (dv 2) da_nil)) de_int (nomark _)) (dv 2) (de_tup (da_cons de_str (da_cons (de_tup (da_cons (de_tup (da_cons de_str (da_cons de_int da_nil))) (da_cons (dv 2) da_nil))) da_nil)))))))

theorem d_law_work {P : Program} {w : World} {K : PySem.W.Frag} {mg : Str → Option Value} {base : Heap} {k : Nat} {f : Addr} {fd : FuncData} {sp : DSp} (T : Tx w K mg) {sp_law_fewest : DSp} {sp_law_free_work : DSp} (C_law_fewest : Callee P w K mg base k "_law_fewest" P_law_fewest sp_law_fewest) (C_law_free_work : Callee P w K mg base k "_law_free_work" P_law_free_work sp_law_free_work) 
    (F : FunD K "_law_work" "_law_work" (defArgs s_law_work) (defBody s_law_work) (defScope s_law_work) [] [] f fd) (len : ∀ ds G Q E, sp ds G Q E → ds.length = 2)
    (ok : ∀ ds G Q E, sp ds G Q E → (r_law_work sp_law_fewest sp_law_free_work) { nx := fun _ G' => Q .non G', rt := Q } (startD 3 ds) G) : DFn P w K mg base (k + 1) f fd P_law_work sp :=
  dfn_of F sc_law_work len (b_law_work T C_law_fewest C_law_free_work) ok

theorem k_law_work {P : Program} {w : World} {K : PySem.W.Frag} {mg : Str → Option Value} {base : Heap} {k : Nat} {f : Addr} {fd : FuncData} {sp : DSp} (T : Tx w K mg) {sp_law_fewest : DSp} {sp_law_free_work : DSp} (C_law_fewest : Callee P w K mg base k "_law_fewest" P_law_fewest sp_law_fewest) (C_law_free_work : Callee P w K mg base k "_law_free_work" P_law_free_work sp_law_free_work) 
    (F : FunD K "_law_work" "_law_work" (defArgs s_law_work) (defBody s_law_work) (defScope s_law_work) [] [] f fd) (hm : mg "_law_work" = some (.ref f)) (len : ∀ ds G Q E, sp ds G Q E → ds.length = 2)
    (ok : ∀ ds G Q E, sp ds G Q E → (r_law_work sp_law_fewest sp_law_free_work) { nx := fun _ G' => Q .non G', rt := Q } (startD 3 ds) G) : Callee P w K mg base (k + 1) "_law_work" P_law_work sp :=
  callee_of F hm (d_law_work T C_law_fewest C_law_free_work F len ok) (fun _ _ _ _ _ _ us hl => match us, hl with | [_, _], _ => rfl) (fun _ _ _ _ _ _ us hl => match us, hl with | [_, _], _ => rfl)

abbrev N_law_second : List Str := ["_law_some", "_law_low", "_law_high"]
abbrev P_law_second : List Str := []

theorem sc_law_second : FnScope N_law_second P_law_second (defScope s_law_second) := ⟨rfl, rfl, rfl, by decide +kernel, rfl, by decide +kernel, by decide +kernel⟩

theorem b_law_second {P : Program} {w : World} {K : PySem.W.Frag} {mg : Str → Option Value} {base : Heap} {k : Nat} {f : Addr} (T : Tx w K mg)    (cdv : Value) (A : Around) (out : List Env) (st : Shared) (H : Hp) (E : XK)
    (hr : Room k (A.deeper (PyProof.Rows.envOfC "_law_second" (defScope s_law_second) st.heap.objs.size f cdv))) (hgd : (A.deeper (PyProof.Rows.envOfC "_law_second" (defScope s_law_second) st.heap.objs.size f cdv)).guards = some []) :
    DSs (cxOf CX0 P w K mg base N_law_second "_law_second" (defScope s_law_second) f cdv A out st H E).nox (defBody s_law_second) (r_law_second) := by
  have SC := sc_law_second
  have hu := hu_of hr
  have hu64 := hr.units
  have hu70 := hu70_of hr
  exact (ds_cons (ds_set (i := 0) SC.nd rfl (by first | exact Or.inl rfl | exact Or.inr rfl) (de_tup (da_cons de_str (da_cons de_int (da_cons de_int (da_cons de_bl da_nil))))))
  (ds_cons (ds_set (i := 1) SC.nd rfl (by first | exact Or.inl rfl | exact Or.inr rfl) (de_tup (da_cons de_str (da_cons de_int (da_cons de_int (da_cons de_bl (da_cons (de_tup (da_cons de_str (da_cons de_int (da_cons de_int (da_cons de_bl da_nil))))) da_nil)))))))
  (ds_cons (ds_set (i := 2) SC.nd rfl (by first | exact Or.inl rfl | exact Or.inr rfl) (de_tup (da_cons de_str (da_cons (de_tup (da_cons (de_tup (da_cons de_str (da_cons de_int (da_cons de_int (da_cons de_bl (da_cons (de_tup (da_cons de_str (da_cons (de_tup (da_cons de_str (da_cons de_int da_nil))) (da_cons (de_tup (da_cons de_str (da_cons (de_tup da_nil) da_nil))) da_nil)))) da_nil)))))) (da_cons (de_tup (da_cons de_str (da_cons de_int da_nil))) (da_cons (dv 0) da_nil)))) da_nil))))
  (ds_one (ds_ret (de_tup (da_cons de_str (da_cons (de_tup (da_cons de_str (da_cons (de_tup (da_cons (de_tup (da_cons de_str (da_cons de_int da_nil))) (da_cons (de_tup (da_cons de_str (da_cons (de_tup da_nil) da_nil))) (da_cons (dv 0) da_nil)))) da_nil))) (da_cons (de_tup (da_cons de_str (da_cons (de_tup (da_cons (dv 1) (da_cons (de_tup (da_cons de_str (da_cons de_int da_nil))) (da_cons (dv 2) da_nil)))) da_nil))) da_nil)))))))))

theorem d_law_second {P : Program} {w : World} {K : PySem.W.Frag} {mg : Str → Option Value} {base : Heap} {k : Nat} {f : Addr} {fd : FuncData} {sp : DSp} (T : Tx w K mg)   
    (F : FunD K "_law_second" "_law_second" (defArgs s_law_second) (defBody s_law_second) (defScope s_law_second) [] [] f fd) (len : ∀ ds G Q E, sp ds G Q E → ds.length = 0)
    (ok : ∀ ds G Q E, sp ds G Q E → (r_law_second) { nx := fun _ G' => Q .non G', rt := Q } (startD 3 ds) G) : DFn P w K mg base (k + 1) f fd P_law_second sp :=
  dfn_of F sc_law_second len (b_law_second T) ok

theorem k_law_second {P : Program} {w : World} {K : PySem.W.Frag} {mg : Str → Option Value} {base : Heap} {k : Nat} {f : Addr} {fd : FuncData} {sp : DSp} (T : Tx w K mg)   
    (F : FunD K "_law_second" "_law_second" (defArgs s_law_second) (defBody s_law_second) (defScope s_law_second) [] [] f fd) (hm : mg "_law_second" = some (.ref f)) (len : ∀ ds G Q E, sp ds G Q E → ds.length = 0)
    (ok : ∀ ds G Q E, sp ds G Q E → (r_law_second) { nx := fun _ G' => Q .non G', rt := Q } (startD 3 ds) G) : Callee P w K mg base (k + 1) "_law_second" P_law_second sp :=
  callee_of F hm (d_law_second T F len ok) (fun _ _ _ _ _ _ us hl => match us, hl with | [], _ => rfl) (fun _ _ _ _ _ _ us hl => match us, hl with | [], _ => rfl)

abbrev N_law_parts_right : List Str := ["_law_item", "_law_late", "_law_lot", "_law_spots", "_law_spot_in", "_law_own", "_law_size", "_law_one", "_law_piece", "_law_other_now"]
abbrev P_law_parts_right : List Str := ["_law_item", "_law_late"]

theorem sc_law_parts_right : FnScope N_law_parts_right P_law_parts_right (defScope s_law_parts_right) := ⟨rfl, rfl, rfl, by decide +kernel, rfl, by decide +kernel, by decide +kernel⟩

theorem b_law_parts_right {P : Program} {w : World} {K : PySem.W.Frag} {mg : Str → Option Value} {base : Heap} {k : Nat} {f : Addr} (T : Tx w K mg) {sp_is_work : DSp} {sp_depth_of : DSp} {sp_size_of : DSp} {sp_with_part : DSp} {sp_part_at : DSp} {sp_parts_of : DSp} (C_is_work : Callee P w K mg base k "is_work" P_is_work sp_is_work) (C_depth_of : Callee P w K mg base k "depth_of" P_depth_of sp_depth_of) (C_size_of : Callee P w K mg base k "size_of" P_size_of sp_size_of) (C_with_part : Callee P w K mg base k "with_part" P_with_part sp_with_part) (C_part_at : Callee P w K mg base k "part_at" P_part_at sp_part_at) (C_parts_of : Callee P w K mg base k "parts_of" P_parts_of sp_parts_of)  (cdv : Value) (A : Around) (out : List Env) (st : Shared) (H : Hp) (E : XK)
    (hr : Room k (A.deeper (PyProof.Rows.envOfC "_law_parts_right" (defScope s_law_parts_right) st.heap.objs.size f cdv))) (hgd : (A.deeper (PyProof.Rows.envOfC "_law_parts_right" (defScope s_law_parts_right) st.heap.objs.size f cdv)).guards = some []) :
    DSs (cxOf CX0 P w K mg base N_law_parts_right "_law_parts_right" (defScope s_law_parts_right) f cdv A out st H E).nox (defBody s_law_parts_right) (r_law_parts_right sp_is_work sp_depth_of sp_size_of sp_with_part sp_part_at sp_parts_of) := by
  have SC := sc_law_parts_right
  have hu := hu_of hr
  have hu64 := hr.units
  have hu70 := hu70_of hr
  exact (ds_cons (ds_set (i := 2) SC.nd rfl (by first | exact Or.inl rfl | exact Or.inr rfl) (dc C_parts_of hr hgd rfl (da_cons (dv 0) da_nil)))
  (ds_cons (ds_setLcF (i := 3) (own := [("_law_spot_in", 4), ("_law_own", 5)]) (ct := (.tup [4, 5])) rfl SC.nd rfl rfl (sw_true rfl rfl rfl (by decide +kernel)) (di_seq (dv 2)) (blkOk_by (by show blkC N_law_parts_right (defScope s_law_parts_right) _ _ = true; decide +kernel)) (by decide) (fun _ _ _ _ _ => pg_tup rfl (pgs_cons (pg_name (i := 4) SC.nd rfl (Or.inl rfl)) (pgs_cons (pg_name (i := 5) SC.nd rfl (Or.inl rfl)) pgs_nil))) (fun _ _ _ _ _ => dts_nil) (fun _ _ _ _ _ => (dv 4)))
  (ds_cons (ds_if (dt_w (dw_or (dt_cmp (o_ne hu64) (de_callB c_len rfl T.m_len PySem.boot_len (da_cons (dv 2) da_nil)) (dc C_size_of hr hgd rfl (da_cons (dv 0) da_nil)) (nomark _)) (dw_or (dt_cmp (o_ne hu64) (dv 3) (de_frz (de_sortSetP rfl hu70 rfl T.m_sorted rfl T.m_set (dv 3))) (nomark _)) (dw_or1 (dt_cmp (o_ne hu64) (de_ix (dv 2) de_int) (de_tup (da_cons (de_tup da_nil) (da_cons (dv 0) da_nil))) (nomark _))))))
  (ds_one (ds_ret de_bl))
  ds_nil)
  (ds_cons (ds_if (dt_cmp (o_ne hu64) (dc C_depth_of hr hgd rfl (da_cons (dv 0) da_nil)) (de_op o_add de_int (de_callB (c_max rfl) rfl T.m_max (by decide +kernel) (da_cons (de_frz (de_lc (own := [("_law_spot_in", 4)]) (ct := (.one 4)) rfl SC.nd (di_seq (dv 3)) (blkOk_by (by show blkC N_law_parts_right (defScope s_law_parts_right) _ _ = true; decide +kernel)) (by decide) (fun _ _ _ _ _ => pg_name (i := 4) SC.nd rfl (Or.inl rfl)) (fun _ _ _ _ _ => dts_nil) (fun _ _ _ _ _ => (de_callB c_len rfl T.m_len PySem.boot_len (da_cons (dv 4) da_nil))))) da_nil))) (nomark _))
  (ds_one (ds_ret de_bl))
  ds_nil)
  (ds_cons (ds_for PassesOwn.never rfl (di_seq (dv 2)) (dg_tup rfl (dgs_cons (dg_name (i := 4) SC.nd rfl (by first | exact Or.inl rfl | exact Or.inr rfl)) (dgs_cons (dg_name (i := 5) SC.nd rfl (by first | exact Or.inl rfl | exact Or.inr rfl)) dgs_nil)))
  (ds_cons (ds_set (i := 6) SC.nd rfl (by first | exact Or.inl rfl | exact Or.inr rfl) (de_callB c_len rfl T.m_len PySem.boot_len (da_cons (dv 4) da_nil)))
  (ds_cons (ds_if (dt_w (dw_or (dt_cmp (o_ne hu64) (dc C_part_at hr hgd rfl (da_cons (dv 0) (da_cons (dv 4) da_nil))) (dv 5) (nomark _)) (dw_or (dt_not (dt_tru (dc C_is_work hr hgd rfl (da_cons (dv 5) da_nil)))) (dw_or1 (dt_cmp (o_ne hu64) (dc C_with_part hr hgd rfl (da_cons (dv 0) (da_cons (dv 4) (da_cons (dv 5) da_nil)))) (dv 0) (nomark _))))))
  (ds_one (ds_ret de_bl))
  ds_nil)
  (ds_cons (ds_if (dt_cmp (o_ne hu64) (dc C_parts_of hr hgd rfl (da_cons (dv 5) da_nil)) (de_callTy c_tuple rfl T.m_tuple (by decide +kernel) (da_cons (de_frz (de_lc (own := [("_law_one", 7), ("_law_piece", 8)]) (ct := (.tup [7, 8])) rfl SC.nd (di_seq (dv 2)) (blkOk_by (by show blkC N_law_parts_right (defScope s_law_parts_right) _ _ = true; decide +kernel)) (by decide) (fun _ _ _ _ _ => pg_tup rfl (pgs_cons (pg_name (i := 7) SC.nd rfl (Or.inl rfl)) (pgs_cons (pg_name (i := 8) SC.nd rfl (Or.inl rfl)) pgs_nil))) (fun _ _ _ _ _ => (dts_one (dt_cmp (o_eq hu64) (de_slice (dv 7) do_none (do_some (dv 6))) (dv 4) (nomark _)))) (fun _ _ _ _ _ => (de_tup (da_cons (de_slice (dv 7) (do_some (dv 6)) do_none) (da_cons (dv 8) da_nil)))))) da_nil)) (nomark _))
  (ds_one (ds_ret de_bl))
  ds_nil)
  (ds_cons (ds_set (i := 9) SC.nd rfl (by first | exact Or.inl rfl | exact Or.inr rfl) (dc C_with_part hr hgd rfl (da_cons (dv 0) (da_cons (dv 4) (da_cons (dv 1) da_nil)))))
  (ds_cons (ds_if (dt_w (dw_or (dt_cmp (o_ne hu64) (dc C_part_at hr hgd rfl (da_cons (dv 9) (da_cons (dv 4) da_nil))) (dv 1) (nomark _)) (dw_or1 (dt_cmp (o_ne hu64) (dc C_with_part hr hgd rfl (da_cons (dv 9) (da_cons (dv 4) (da_cons (dv 5) da_nil)))) (dv 0) (nomark _)))))
  (ds_one (ds_ret de_bl))
  ds_nil)
  (ds_cons (ds_if (dt_cmp (o_ne hu64) (dc C_size_of hr hgd rfl (da_cons (dv 9) da_nil)) (de_op o_add (de_op o_sub (dc C_size_of hr hgd rfl (da_cons (dv 0) da_nil)) (dc C_size_of hr hgd rfl (da_cons (dv 5) da_nil))) (dc C_size_of hr hgd rfl (da_cons (dv 1) da_nil))) (nomark _))
  (ds_one (ds_ret de_bl))
  ds_nil)
  (ds_one (ds_if (dt_w (dw_or (dt_cmp o_lt (dc C_depth_of hr hgd rfl (da_cons (dv 9) da_nil)) (de_op o_add (dv 6) (dc C_depth_of hr hgd rfl (da_cons (dv 1) da_nil))) (nomark _)) (dw_or1 (dt_not (dt_tru (dc C_is_work hr hgd rfl (da_cons (dv 9) da_nil)))))))
  (ds_one (ds_ret de_bl))
  ds_nil)))))))))
  (ds_one (ds_ret de_bl)))))))

theorem d_law_parts_right {P : Program} {w : World} {K : PySem.W.Frag} {mg : Str → Option Value} {base : Heap} {k : Nat} {f : Addr} {fd : FuncData} {sp : DSp} (T : Tx w K mg) {sp_is_work : DSp} {sp_depth_of : DSp} {sp_size_of : DSp} {sp_with_part : DSp} {sp_part_at : DSp} {sp_parts_of : DSp} (C_is_work : Callee P w K mg base k "is_work" P_is_work sp_is_work) (C_depth_of : Callee P w K mg base k "depth_of" P_depth_of sp_depth_of) (C_size_of : Callee P w K mg base k "size_of" P_size_of sp_size_of) (C_with_part : Callee P w K mg base k "with_part" P_with_part sp_with_part) (C_part_at : Callee P w K mg base k "part_at" P_part_at sp_part_at) (C_parts_of : Callee P w K mg base k "parts_of" P_parts_of sp_parts_of) 
    (F : FunD K "_law_parts_right" "_law_parts_right" (defArgs s_law_parts_right) (defBody s_law_parts_right) (defScope s_law_parts_right) [] [] f fd) (len : ∀ ds G Q E, sp ds G Q E → ds.length = 2)
    (ok : ∀ ds G Q E, sp ds G Q E → (r_law_parts_right sp_is_work sp_depth_of sp_size_of sp_with_part sp_part_at sp_parts_of) { nx := fun _ G' => Q .non G', rt := Q } (startD 10 ds) G) : DFn P w K mg base (k + 1) f fd P_law_parts_right sp :=
  dfn_of F sc_law_parts_right len (b_law_parts_right T C_is_work C_depth_of C_size_of C_with_part C_part_at C_parts_of) ok

theorem k_law_parts_right {P : Program} {w : World} {K : PySem.W.Frag} {mg : Str → Option Value} {base : Heap} {k : Nat} {f : Addr} {fd : FuncData} {sp : DSp} (T : Tx w K mg) {sp_is_work : DSp} {sp_depth_of : DSp} {sp_size_of : DSp} {sp_with_part : DSp} {sp_part_at : DSp} {sp_parts_of : DSp} (C_is_work : Callee P w K mg base k "is_work" P_is_work sp_is_work) (C_depth_of : Callee P w K mg base k "depth_of" P_depth_of sp_depth_of) (C_size_of : Callee P w K mg base k "size_of" P_size_of sp_size_of) (C_with_part : Callee P w K mg base k "with_part" P_with_part sp_with_part) (C_part_at : Callee P w K mg base k "part_at" P_part_at sp_part_at) (C_parts_of : Callee P w K mg base k "parts_of" P_parts_of sp_parts_of) 
    (F : FunD K "_law_parts_right" "_law_parts_right" (defArgs s_law_parts_right) (defBody s_law_parts_right) (defScope s_law_parts_right) [] [] f fd) (hm : mg "_law_parts_right" = some (.ref f)) (len : ∀ ds G Q E, sp ds G Q E → ds.length = 2)
    (ok : ∀ ds G Q E, sp ds G Q E → (r_law_parts_right sp_is_work sp_depth_of sp_size_of sp_with_part sp_part_at sp_parts_of) { nx := fun _ G' => Q .non G', rt := Q } (startD 10 ds) G) : Callee P w K mg base (k + 1) "_law_parts_right" P_law_parts_right sp :=
  callee_of F hm (d_law_parts_right T C_is_work C_depth_of C_size_of C_with_part C_part_at C_parts_of F len ok) (fun _ _ _ _ _ _ us hl => match us, hl with | [_, _], _ => rfl) (fun _ _ _ _ _ _ us hl => match us, hl with | [_, _], _ => rfl)

abbrev N_law_loops_right : List Str := ["_law_item", "_law_spots", "_law_spot_in", "_law_own", "_law_low", "_law_high", "_law_first", "_law_last", "_law_late", "_law_second_here", "_law_both", "_law_one"]
abbrev P_law_loops_right : List Str := ["_law_item"]

theorem sc_law_loops_right : FnScope N_law_loops_right P_law_loops_right (defScope s_law_loops_right) := ⟨rfl, rfl, rfl, by decide +kernel, rfl, by decide +kernel, by decide +kernel⟩

theorem b_law_loops_right {P : Program} {w : World} {K : PySem.W.Frag} {mg : Str → Option Value} {base : Heap} {k : Nat} {f : Addr} (T : Tx w K mg) {sp_told_first : DSp} {sp_told_at : DSp} {sp_with_bounds : DSp} {sp_size_of : DSp} {sp_bounds_of : DSp} {sp_loops_of : DSp} {sp_told_last : DSp} {sp_is_number : DSp} {sp_parts_of : DSp} (C_told_first : Callee P w K mg base k "told_first" P_told_first sp_told_first) (C_told_at : Callee P w K mg base k "told_at" P_told_at sp_told_at) (C_with_bounds : Callee P w K mg base k "with_bounds" P_with_bounds sp_with_bounds) (C_size_of : Callee P w K mg base k "size_of" P_size_of sp_size_of) (C_bounds_of : Callee P w K mg base k "bounds_of" P_bounds_of sp_bounds_of) (C_loops_of : Callee P w K mg base k "loops_of" P_loops_of sp_loops_of) (C_told_last : Callee P w K mg base k "told_last" P_told_last sp_told_last) (C_is_number : Callee P w K mg base k "is_number" P_is_number sp_is_number) (C_parts_of : Callee P w K mg base k "parts_of" P_parts_of sp_parts_of)  (cdv : Value) (A : Around) (out : List Env) (st : Shared) (H : Hp) (E : XK)
    (hr : Room k (A.deeper (PyProof.Rows.envOfC "_law_loops_right" (defScope s_law_loops_right) st.heap.objs.size f cdv))) (hgd : (A.deeper (PyProof.Rows.envOfC "_law_loops_right" (defScope s_law_loops_right) st.heap.objs.size f cdv)).guards = some []) :
    DSs (cxOf CX0 P w K mg base N_law_loops_right "_law_loops_right" (defScope s_law_loops_right) f cdv A out st H E).nox (defBody s_law_loops_right) (r_law_loops_right sp_told_first sp_told_at sp_with_bounds sp_size_of sp_bounds_of sp_loops_of sp_told_last sp_is_number sp_parts_of) := by
  have SC := sc_law_loops_right
  have hu := hu_of hr
  have hu64 := hr.units
  have hu70 := hu70_of hr
  exact (ds_cons (ds_set (i := 1) SC.nd rfl (by first | exact Or.inl rfl | exact Or.inr rfl) (dc C_loops_of hr hgd rfl (da_cons (dv 0) da_nil)))
  (ds_cons (ds_if (dt_cmp (o_ne hu64) (de_frz (de_callTy c_list rfl T.m_list (by decide +kernel) (da_cons (dv 1) da_nil))) (de_frz (de_lc (own := [("_law_spot_in", 2), ("_law_own", 3)]) (ct := (.tup [2, 3])) rfl SC.nd (di_seq (dc C_parts_of hr hgd rfl (da_cons (dv 0) da_nil))) (blkOk_by (by show blkC N_law_loops_right (defScope s_law_loops_right) _ _ = true; decide +kernel)) (by decide) (fun _ _ _ _ _ => pg_tup rfl (pgs_cons (pg_name (i := 2) SC.nd rfl (Or.inl rfl)) (pgs_cons (pg_name (i := 3) SC.nd rfl (Or.inl rfl)) pgs_nil))) (fun _ _ _ _ _ => (dts_one (dt_cmp (o_inT hu70) (de_ix (dv 3) de_int) (de_tup (da_cons de_str (da_cons de_str da_nil))) rfl))) (fun _ _ _ _ _ => (dv 2)))) (nomark _))
  (ds_one (ds_ret de_bl))
  ds_nil)
  (ds_cons (ds_for PassesOwn.never rfl (di_seq (dv 1)) (dg_name (i := 2) SC.nd rfl (by first | exact Or.inl rfl | exact Or.inr rfl))
  (ds_cons (ds_asg (dc C_bounds_of hr hgd rfl (da_cons (dv 0) (da_cons (dv 2) da_nil))) (dg_tup rfl (dgs_cons (dg_name (i := 4) SC.nd rfl (by first | exact Or.inl rfl | exact Or.inr rfl)) (dgs_cons (dg_name (i := 5) SC.nd rfl (by first | exact Or.inl rfl | exact Or.inr rfl)) dgs_nil))))
  (ds_cons (ds_par (i := 6) (j := 7) rfl SC.nd rfl rfl (by decide) rfl rfl (da_cons (dc C_told_first hr hgd rfl (da_cons (dv 0) (da_cons (dv 2) da_nil))) (da_cons (dc C_told_last hr hgd rfl (da_cons (dv 0) (da_cons (dv 2) da_nil))) da_nil)) rfl)
  (ds_cons (ds_if (dt_w (dw_or (dt_not (dt_tru (dc C_is_number hr hgd rfl (da_cons (dv 4) da_nil)))) (dw_or (dt_not (dt_cmp o_le (dv 4) (dv 5) (nomark _))) (dw_or (dt_cmp (o_notinT hu70) (dv 0) (de_tup (da_cons (dv 6) (da_cons (dv 7) da_nil))) rfl) (dw_or1 (dt_cmp (o_eq hu64) (dv 6) (dv 7) (nomark _)))))))
  (ds_one (ds_ret de_bl))
  ds_nil)
  (ds_cons (ds_if (dt_w (dw_or (dt_cmp (o_ne hu64) (dc C_told_last hr hgd rfl (da_cons (dv 6) (da_cons (dv 2) da_nil))) (dv 7) (nomark _)) (dw_or1 (dt_cmp (o_ne hu64) (dc C_told_first hr hgd rfl (da_cons (dv 7) (da_cons (dv 2) da_nil))) (dv 6) (nomark _)))))
  (ds_one (ds_ret de_bl))
  ds_nil)
  (ds_cons (ds_if (dt_cmp (o_ne hu64) (dc C_told_first hr hgd rfl (da_cons (dv 6) (da_cons (dv 2) da_nil))) (dv 6) (nomark _))
  (ds_one (ds_ret de_bl))
  ds_nil)
  (ds_cons (ds_if (dt_w (dw_or (dt_cmp (o_ne hu64) (dc C_told_at hr hgd rfl (da_cons (dv 0) (da_cons (de_tup (da_cons (dv 2) da_nil)) da_nil))) (dv 6) (nomark _)) (dw_or (dt_cmp (o_ne hu64) (dc C_bounds_of hr hgd rfl (da_cons (dv 6) (da_cons (dv 2) da_nil))) (de_tup (da_cons (dv 4) (da_cons (dv 5) da_nil))) (nomark _)) (dw_or1 (dt_cmp (o_ne hu64) (dc C_loops_of hr hgd rfl (da_cons (dv 7) da_nil)) (dv 1) (nomark _))))))
  (ds_one (ds_ret de_bl))
  ds_nil)
  (ds_cons (ds_set (i := 8) SC.nd rfl (by first | exact Or.inl rfl | exact Or.inr rfl) (dc C_with_bounds hr hgd rfl (da_cons (dv 0) (da_cons (dv 2) (da_cons de_int (da_cons de_int da_nil))))))
  (ds_cons (ds_if (dt_w (dw_or (dt_cmp (o_ne hu64) (dc C_bounds_of hr hgd rfl (da_cons (dv 8) (da_cons (dv 2) da_nil))) (de_tup (da_cons de_int (da_cons de_int da_nil))) (nomark _)) (dw_or1 (dt_cmp (o_ne hu64) (dc C_with_bounds hr hgd rfl (da_cons (dv 8) (da_cons (dv 2) (da_cons (dv 4) (da_cons (dv 5) da_nil))))) (dv 0) (nomark _)))))
  (ds_one (ds_ret de_bl))
  ds_nil)
  (ds_cons (ds_if (dt_w (dw_or (dt_cmp (o_ne hu64) (dc C_told_first hr hgd rfl (da_cons (dv 8) (da_cons (dv 2) da_nil))) (dc C_with_bounds hr hgd rfl (da_cons (dv 6) (da_cons (dv 2) (da_cons de_int (da_cons de_int da_nil))))) (nomark _)) (dw_or1 (dt_cmp (o_ne hu64) (dc C_size_of hr hgd rfl (da_cons (dv 8) da_nil)) (dc C_size_of hr hgd rfl (da_cons (dv 0) da_nil)) (nomark _)))))
  (ds_one (ds_ret de_bl))
  ds_nil)
  (ds_one (ds_for PassesOwn.never rfl (di_seq (dv 1)) (dg_name (i := 9) SC.nd rfl (by first | exact Or.inl rfl | exact Or.inr rfl))
  (ds_cons (ds_if (dt_cmp (o_ne hu64) (dc C_told_at hr hgd rfl (da_cons (dv 0) (da_cons (de_tup (da_cons (dv 2) (da_cons (dv 9) da_nil))) da_nil))) (dc C_told_first hr hgd rfl (da_cons (dv 6) (da_cons (dv 9) da_nil))) (nomark _))
  (ds_one (ds_ret de_bl))
  ds_nil)
  (ds_cons (ds_if (dt_cmp (o_ne hu64) (dc C_told_at hr hgd rfl (da_cons (dv 0) (da_cons (de_tup (da_cons (dv 9) (da_cons (dv 2) da_nil))) da_nil))) (dc C_told_at hr hgd rfl (da_cons (dv 0) (da_cons (de_tup (da_cons (dv 2) (da_cons (dv 9) da_nil))) da_nil))) (nomark _))
  (ds_one (ds_ret de_bl))
  ds_nil)
  (ds_cons (ds_set (i := 10) SC.nd rfl (by first | exact Or.inl rfl | exact Or.inr rfl) (dc C_with_bounds hr hgd rfl (da_cons (dc C_with_bounds hr hgd rfl (da_cons (dv 0) (da_cons (dv 9) (da_cons de_int (da_cons de_int da_nil))))) (da_cons (dv 2) (da_cons de_int (da_cons de_int da_nil))))))
  (ds_one (ds_if (dt_w (dw_and (dt_cmp (o_ne hu64) (dv 9) (dv 2) (nomark _)) (dw_and1 (dt_cmp (o_ne hu64) (dc C_with_bounds hr hgd rfl (da_cons (dv 8) (da_cons (dv 9) (da_cons de_int (da_cons de_int da_nil))))) (dv 10) (nomark _)))))
  (ds_one (ds_ret de_bl))
  ds_nil)))))))))))))))))
  (ds_cons (ds_set (i := 8) SC.nd rfl (by first | exact Or.inl rfl | exact Or.inr rfl) (dc C_told_at hr hgd rfl (da_cons (dv 0) (da_cons (dv 1) da_nil))))
  (ds_one (ds_ret (de_and (de_cmp (o_eq hu64) (dc C_told_at hr hgd rfl (da_cons (dv 8) (da_cons (de_rev (dv 1)) da_nil))) (dv 8) (nomark _)) (de_one (de_cmp (o_eq hu64) (de_frz (de_lc (own := [("_law_one", 11)]) (ct := (.one 11)) rfl SC.nd (di_seq (dv 1)) (blkOk_by (by show blkC N_law_loops_right (defScope s_law_loops_right) _ _ = true; decide +kernel)) (by decide) (fun _ _ _ _ _ => pg_name (i := 11) SC.nd rfl (Or.inl rfl)) (fun _ _ _ _ _ => (dts_one (dt_cmp (o_ne hu64) (dc C_told_first hr hgd rfl (da_cons (dv 8) (da_cons (dv 11) da_nil))) (dv 8) (nomark _)))) (fun _ _ _ _ _ => (dv 11)))) (de_frz (de_lst da_nil)) (nomark _))))))))))

theorem d_law_loops_right {P : Program} {w : World} {K : PySem.W.Frag} {mg : Str → Option Value} {base : Heap} {k : Nat} {f : Addr} {fd : FuncData} {sp : DSp} (T : Tx w K mg) {sp_told_first : DSp} {sp_told_at : DSp} {sp_with_bounds : DSp} {sp_size_of : DSp} {sp_bounds_of : DSp} {sp_loops_of : DSp} {sp_told_last : DSp} {sp_is_number : DSp} {sp_parts_of : DSp} (C_told_first : Callee P w K mg base k "told_first" P_told_first sp_told_first) (C_told_at : Callee P w K mg base k "told_at" P_told_at sp_told_at) (C_with_bounds : Callee P w K mg base k "with_bounds" P_with_bounds sp_with_bounds) (C_size_of : Callee P w K mg base k "size_of" P_size_of sp_size_of) (C_bounds_of : Callee P w K mg base k "bounds_of" P_bounds_of sp_bounds_of) (C_loops_of : Callee P w K mg base k "loops_of" P_loops_of sp_loops_of) (C_told_last : Callee P w K mg base k "told_last" P_told_last sp_told_last) (C_is_number : Callee P w K mg base k "is_number" P_is_number sp_is_number) (C_parts_of : Callee P w K mg base k "parts_of" P_parts_of sp_parts_of) 
    (F : FunD K "_law_loops_right" "_law_loops_right" (defArgs s_law_loops_right) (defBody s_law_loops_right) (defScope s_law_loops_right) [] [] f fd) (len : ∀ ds G Q E, sp ds G Q E → ds.length = 1)
    (ok : ∀ ds G Q E, sp ds G Q E → (r_law_loops_right sp_told_first sp_told_at sp_with_bounds sp_size_of sp_bounds_of sp_loops_of sp_told_last sp_is_number sp_parts_of) { nx := fun _ G' => Q .non G', rt := Q } (startD 12 ds) G) : DFn P w K mg base (k + 1) f fd P_law_loops_right sp :=
  dfn_of F sc_law_loops_right len (b_law_loops_right T C_told_first C_told_at C_with_bounds C_size_of C_bounds_of C_loops_of C_told_last C_is_number C_parts_of) ok

theorem k_law_loops_right {P : Program} {w : World} {K : PySem.W.Frag} {mg : Str → Option Value} {base : Heap} {k : Nat} {f : Addr} {fd : FuncData} {sp : DSp} (T : Tx w K mg) {sp_told_first : DSp} {sp_told_at : DSp} {sp_with_bounds : DSp} {sp_size_of : DSp} {sp_bounds_of : DSp} {sp_loops_of : DSp} {sp_told_last : DSp} {sp_is_number : DSp} {sp_parts_of : DSp} (C_told_first : Callee P w K mg base k "told_first" P_told_first sp_told_first) (C_told_at : Callee P w K mg base k "told_at" P_told_at sp_told_at) (C_with_bounds : Callee P w K mg base k "with_bounds" P_with_bounds sp_with_bounds) (C_size_of : Callee P w K mg base k "size_of" P_size_of sp_size_of) (C_bounds_of : Callee P w K mg base k "bounds_of" P_bounds_of sp_bounds_of) (C_loops_of : Callee P w K mg base k "loops_of" P_loops_of sp_loops_of) (C_told_last : Callee P w K mg base k "told_last" P_told_last sp_told_last) (C_is_number : Callee P w K mg base k "is_number" P_is_number sp_is_number) (C_parts_of : Callee P w K mg base k "parts_of" P_parts_of sp_parts_of) 
    (F : FunD K "_law_loops_right" "_law_loops_right" (defArgs s_law_loops_right) (defBody s_law_loops_right) (defScope s_law_loops_right) [] [] f fd) (hm : mg "_law_loops_right" = some (.ref f)) (len : ∀ ds G Q E, sp ds G Q E → ds.length = 1)
    (ok : ∀ ds G Q E, sp ds G Q E → (r_law_loops_right sp_told_first sp_told_at sp_with_bounds sp_size_of sp_bounds_of sp_loops_of sp_told_last sp_is_number sp_parts_of) { nx := fun _ G' => Q .non G', rt := Q } (startD 12 ds) G) : Callee P w K mg base (k + 1) "_law_loops_right" P_law_loops_right sp :=
  callee_of F hm (d_law_loops_right T C_told_first C_told_at C_with_bounds C_size_of C_bounds_of C_loops_of C_told_last C_is_number C_parts_of F len ok) (fun _ _ _ _ _ _ us hl => match us, hl with | [_], _ => rfl) (fun _ _ _ _ _ _ us hl => match us, hl with | [_], _ => rfl)

abbrev N_law_apart_right : List Str := ["_law_item", "_law_spots", "_law_spot_in", "_law_own", "_law_one", "_law_two", "_law_size", "_law_late"]
abbrev P_law_apart_right : List Str := ["_law_item"]

theorem sc_law_apart_right : FnScope N_law_apart_right P_law_apart_right (defScope s_law_apart_right) := ⟨rfl, rfl, rfl, by decide +kernel, rfl, by decide +kernel, by decide +kernel⟩

theorem b_law_apart_right {P : Program} {w : World} {K : PySem.W.Frag} {mg : Str → Option Value} {base : Heap} {k : Nat} {f : Addr} (T : Tx w K mg) {sp_with_part : DSp} {sp_parts_of : DSp} (C_with_part : Callee P w K mg base k "with_part" P_with_part sp_with_part) (C_parts_of : Callee P w K mg base k "parts_of" P_parts_of sp_parts_of)  (cdv : Value) (A : Around) (out : List Env) (st : Shared) (H : Hp) (E : XK)
    (hr : Room k (A.deeper (PyProof.Rows.envOfC "_law_apart_right" (defScope s_law_apart_right) st.heap.objs.size f cdv))) (hgd : (A.deeper (PyProof.Rows.envOfC "_law_apart_right" (defScope s_law_apart_right) st.heap.objs.size f cdv)).guards = some []) :
    DSs (cxOf CX0 P w K mg base N_law_apart_right "_law_apart_right" (defScope s_law_apart_right) f cdv A out st H E).nox (defBody s_law_apart_right) (r_law_apart_right sp_with_part sp_parts_of) := by
  have SC := sc_law_apart_right
  have hu := hu_of hr
  have hu64 := hr.units
  have hu70 := hu70_of hr
  exact (ds_cons (ds_set (i := 1) SC.nd rfl (by first | exact Or.inl rfl | exact Or.inr rfl) (de_frz (de_slice (de_frz (de_lc (own := [("_law_spot_in", 2), ("_law_own", 3)]) (ct := (.tup [2, 3])) rfl SC.nd (di_seq (dc C_parts_of hr hgd rfl (da_cons (dv 0) da_nil))) (blkOk_by (by show blkC N_law_apart_right (defScope s_law_apart_right) _ _ = true; decide +kernel)) (by decide) (fun _ _ _ _ _ => pg_tup rfl (pgs_cons (pg_name (i := 2) SC.nd rfl (Or.inl rfl)) (pgs_cons (pg_name (i := 3) SC.nd rfl (Or.inl rfl)) pgs_nil))) (fun _ _ _ _ _ => dts_nil) (fun _ _ _ _ _ => (dv 2)))) do_none (do_some de_int))))
  (ds_cons (ds_for PassesOwn.never rfl (di_seq (dv 1)) (dg_name (i := 4) SC.nd rfl (by first | exact Or.inl rfl | exact Or.inr rfl))
  (ds_one (ds_for PassesOwn.never rfl (di_seq (dv 1)) (dg_name (i := 5) SC.nd rfl (by first | exact Or.inl rfl | exact Or.inr rfl))
  (ds_cons (ds_set (i := 6) SC.nd rfl (by first | exact Or.inl rfl | exact Or.inr rfl) (de_callB (c_min2 rfl) rfl T.m_min (by decide +kernel) (da_cons (de_callB c_len rfl T.m_len PySem.boot_len (da_cons (dv 4) da_nil)) (da_cons (de_callB c_len rfl T.m_len PySem.boot_len (da_cons (dv 5) da_nil)) da_nil))))
  (ds_one (ds_if (dt_cmp (o_ne hu64) (de_slice (dv 4) do_none (do_some (dv 6))) (de_slice (dv 5) do_none (do_some (dv 6))) (nomark _))
  (ds_cons (ds_set (i := 7) SC.nd rfl (by first | exact Or.inl rfl | exact Or.inr rfl) (dc C_with_part hr hgd rfl (da_cons (dc C_with_part hr hgd rfl (da_cons (dv 0) (da_cons (dv 4) (da_cons (de_tup (da_cons de_str (da_cons de_int da_nil))) da_nil)))) (da_cons (dv 5) (da_cons (de_tup (da_cons de_str (da_cons (de_tup da_nil) da_nil))) da_nil)))))
  (ds_one (ds_if (dt_cmp (o_ne hu64) (dv 7) (dc C_with_part hr hgd rfl (da_cons (dc C_with_part hr hgd rfl (da_cons (dv 0) (da_cons (dv 5) (da_cons (de_tup (da_cons de_str (da_cons (de_tup da_nil) da_nil))) da_nil)))) (da_cons (dv 4) (da_cons (de_tup (da_cons de_str (da_cons de_int da_nil))) da_nil)))) (nomark _))
  (ds_one (ds_ret de_bl))
  ds_nil)))
  ds_nil))))))
  (ds_one (ds_ret de_bl))))

theorem d_law_apart_right {P : Program} {w : World} {K : PySem.W.Frag} {mg : Str → Option Value} {base : Heap} {k : Nat} {f : Addr} {fd : FuncData} {sp : DSp} (T : Tx w K mg) {sp_with_part : DSp} {sp_parts_of : DSp} (C_with_part : Callee P w K mg base k "with_part" P_with_part sp_with_part) (C_parts_of : Callee P w K mg base k "parts_of" P_parts_of sp_parts_of) 
    (F : FunD K "_law_apart_right" "_law_apart_right" (defArgs s_law_apart_right) (defBody s_law_apart_right) (defScope s_law_apart_right) [] [] f fd) (len : ∀ ds G Q E, sp ds G Q E → ds.length = 1)
    (ok : ∀ ds G Q E, sp ds G Q E → (r_law_apart_right sp_with_part sp_parts_of) { nx := fun _ G' => Q .non G', rt := Q } (startD 8 ds) G) : DFn P w K mg base (k + 1) f fd P_law_apart_right sp :=
  dfn_of F sc_law_apart_right len (b_law_apart_right T C_with_part C_parts_of) ok

theorem k_law_apart_right {P : Program} {w : World} {K : PySem.W.Frag} {mg : Str → Option Value} {base : Heap} {k : Nat} {f : Addr} {fd : FuncData} {sp : DSp} (T : Tx w K mg) {sp_with_part : DSp} {sp_parts_of : DSp} (C_with_part : Callee P w K mg base k "with_part" P_with_part sp_with_part) (C_parts_of : Callee P w K mg base k "parts_of" P_parts_of sp_parts_of) 
    (F : FunD K "_law_apart_right" "_law_apart_right" (defArgs s_law_apart_right) (defBody s_law_apart_right) (defScope s_law_apart_right) [] [] f fd) (hm : mg "_law_apart_right" = some (.ref f)) (len : ∀ ds G Q E, sp ds G Q E → ds.length = 1)
    (ok : ∀ ds G Q E, sp ds G Q E → (r_law_apart_right sp_with_part sp_parts_of) { nx := fun _ G' => Q .non G', rt := Q } (startD 8 ds) G) : Callee P w K mg base (k + 1) "_law_apart_right" P_law_apart_right sp :=
  callee_of F hm (d_law_apart_right T C_with_part C_parts_of F len ok) (fun _ _ _ _ _ _ us hl => match us, hl with | [_], _ => rfl) (fun _ _ _ _ _ _ us hl => match us, hl with | [_], _ => rfl)

abbrev N_law : List Str := ["_law_script", "_law_feed_here", "_law_item", "_law_kept"]
abbrev P_law : List Str := ["_law_script"]

theorem sc_law : FnScope N_law P_law (defScope s_law) := ⟨rfl, rfl, rfl, by decide +kernel, rfl, by decide +kernel, by decide +kernel⟩

theorem b_law {P : Program} {w : World} {K : PySem.W.Frag} {mg : Str → Option Value} {base : Heap} {k : Nat} {f : Addr} (T : Tx w K mg) {sp_law_second : DSp} {sp_law_work : DSp} {sp_lets_work : DSp} {sp_size_of : DSp} {sp_law_apart_right : DSp} {sp_law_loops_right : DSp} {sp_law_parts_right : DSp} {sp_law_free_work : DSp} {sp_law_feed : DSp} (C_law_second : Callee P w K mg base k "_law_second" P_law_second sp_law_second) (C_law_work : Callee P w K mg base k "_law_work" P_law_work sp_law_work) (C_lets_work : Callee P w K mg base k "lets_work" P_lets_work sp_lets_work) (C_size_of : Callee P w K mg base k "size_of" P_size_of sp_size_of) (C_law_apart_right : Callee P w K mg base k "_law_apart_right" P_law_apart_right sp_law_apart_right) (C_law_loops_right : Callee P w K mg base k "_law_loops_right" P_law_loops_right sp_law_loops_right) (C_law_parts_right : Callee P w K mg base k "_law_parts_right" P_law_parts_right sp_law_parts_right) (C_law_free_work : Callee P w K mg base k "_law_free_work" P_law_free_work sp_law_free_work) (C_law_feed : Callee P w K mg base k "_law_feed" P_law_feed sp_law_feed)  (cdv : Value) (A : Around) (out : List Env) (st : Shared) (H : Hp) (E : XK)
    (hr : Room k (A.deeper (PyProof.Rows.envOfC "law" (defScope s_law) st.heap.objs.size f cdv))) (hgd : (A.deeper (PyProof.Rows.envOfC "law" (defScope s_law) st.heap.objs.size f cdv)).guards = some []) :
    DSs (cxOf CX0 P w K mg base N_law "law" (defScope s_law) f cdv A out st H E).nox (defBody s_law) (r_law sp_law_second sp_law_work sp_lets_work sp_size_of sp_law_apart_right sp_law_loops_right sp_law_parts_right sp_law_free_work sp_law_feed) := by
  have SC := sc_law
  have hu := hu_of hr
  have hu64 := hr.units
  have hu70 := hu70_of hr
  exact (ds_cons (ds_set (i := 1) SC.nd rfl (by first | exact Or.inl rfl | exact Or.inr rfl) (dc C_law_feed hr hgd rfl (da_cons (dv 0) da_nil)))
  (ds_cons (ds_for PassesOwn.never rfl (di_seq (de_tup (da_cons (dc C_law_work hr hgd rfl (da_cons (dv 1) (da_cons de_int da_nil))) (da_cons (dc C_law_work hr hgd rfl (da_cons (dv 1) (da_cons de_int da_nil))) (da_cons (dc0 C_law_second hr hgd rfl) da_nil))))) (dg_name (i := 2) SC.nd rfl (by first | exact Or.inl rfl | exact Or.inr rfl))
  (ds_cons (ds_set (i := 3) SC.nd rfl (by first | exact Or.inl rfl | exact Or.inr rfl) (de_callB (c_repr hgd hu70) rfl T.m_repr (by decide +kernel) (da_cons (dv 2) da_nil)))
  (ds_cons (ds_if (dt_not (dt_tru (dc C_law_parts_right hr hgd rfl (da_cons (dv 2) (da_cons (dc C_law_free_work hr hgd rfl (da_cons (dv 1) (da_cons de_int da_nil))) da_nil)))))
  (ds_one (ds_ret de_bl))
  ds_nil)
  (ds_cons (ds_if (dt_w (dw_or (dt_not (dt_tru (dc C_law_loops_right hr hgd rfl (da_cons (dv 2) da_nil)))) (dw_or1 (dt_not (dt_tru (dc C_law_apart_right hr hgd rfl (da_cons (dv 2) da_nil)))))))
  (ds_one (ds_ret de_bl))
  ds_nil)
  (ds_one (ds_if (dt_w (dw_or (dt_cmp (o_ne hu64) (dc C_lets_work hr hgd rfl (da_cons (dv 2) da_nil)) (dc C_size_of hr hgd rfl (da_cons (dv 2) da_nil)) (nomark _)) (dw_or1 (dt_cmp (o_ne hu64) (de_callB (c_repr hgd hu70) rfl T.m_repr (by decide +kernel) (da_cons (dv 2) da_nil)) (dv 3) (nomark _)))))
  (ds_one (ds_ret de_bl))
  ds_nil))))))
  (ds_one (ds_ret de_bl))))

end K12

namespace K12
open PySem L2 Dl K03 K04
open PyProof.Rows
section
variable {P : Program} {w : World} {K : PySem.W.Frag} {h : Heap} {mg : Str → Option Value}
theorem tx_of (X : K.In h) (G : h.Ns mainGlobals mg) (c : SaysXT fx fn ts w K) : Tx w K mg := ⟨He.free_ok X G (c.fact 43 (f := .free "all") rfl), He.free_ok X G (c.fact 44 (f := .free "bool") rfl), He.free_ok X G (c.fact 45 (f := .free "enumerate") rfl), He.free_ok X G (c.fact 46 (f := .free "int") rfl), He.free_ok X G (c.fact 47 (f := .free "isinstance") rfl), He.free_ok X G (c.fact 48 (f := .free "len") rfl), He.free_ok X G (c.fact 49 (f := .free "list") rfl), He.free_ok X G (c.fact 50 (f := .free "max") rfl), He.free_ok X G (c.fact 51 (f := .free "min") rfl), He.free_ok X G (c.fact 52 (f := .free "range") rfl), He.free_ok X G (c.fact 53 (f := .free "repr") rfl), He.free_ok X G (c.fact 54 (f := .free "set") rfl), He.free_ok X G (c.fact 55 (f := .free "sorted") rfl), He.free_ok X G (c.fact 56 (f := .free "str") rfl), He.free_ok X G (c.fact 57 (f := .free "sum") rfl), He.free_ok X G (c.fact 58 (f := .free "tuple") rfl), He.free_ok X G (c.fact 59 (f := .free "zip") rfl), dat_ok X G (c.fact 60 (f := .dat "COUNTED" (.tup [.str "some", .str "loop"])) rfl), SaysXT.tab X G c 0 rfl, c.fact 61 (f := .kb knoB) rfl⟩
end
theorem noFW0 (ds : List D) (G : GH) (Q : DK) (E : DXK) : ¬ spFW 0 ds G Q E := fun ⟨_, _, _, h, _⟩ => by omega
theorem noRfe0 (ds : List D) (G : GH) (Q : DK) (E : DXK) : ¬ pSp (RfeL 0) ds G Q E := fun ⟨_, ⟨w, _, _, _, h, _⟩, _⟩ => by have := dW_pos w; omega

theorem facts {P : Program} {w : World} {K : PySem.W.Frag} {h : Heap} {mg : Str → Option Value} {f : Addr} (X : K.In h) (G : h.Ns mainGlobals mg) (hfa : mg ("law" : Str) = some (.ref f)) (c : SaysXT fx fn ts w K) :
    ∃ fd : FuncData, (∀ (s : Shared) (v : Value), BindsTo s fd ⟨[v], []⟩ [("_law_script", v)]) ∧ ∀ base : Heap, K.In base → base.Ns mainGlobals mg → DFn P w K mg base 43 f fd ["_law_script"] K12.spLaw12 := by
  have T : Tx w K mg := tx_of X G c
  obtain ⟨fd_is_integer, F_is_integer⟩ := c.def_ 0 (d := d_is_integer_) rfl
  have m_is_integer := He.glo_ok X G (c.fact 0 (f := .glo "is_integer") rfl)
  obtain ⟨fd_is_number, F_is_number⟩ := c.def_ 1 (d := d_is_number_) rfl
  have m_is_number := He.glo_ok X G (c.fact 1 (f := .glo "is_number") rfl)
  obtain ⟨fd_is_amount, F_is_amount⟩ := c.def_ 2 (d := d_is_amount_) rfl
  have m_is_amount := He.glo_ok X G (c.fact 2 (f := .glo "is_amount") rfl)
  obtain ⟨fd_work_word, F_work_word⟩ := c.def_ 3 (d := d_work_word_) rfl
  have m_work_word := He.glo_ok X G (c.fact 3 (f := .glo "work_word") rfl)
  obtain ⟨fd_inner_works, F_inner_works⟩ := c.def_ 4 (d := d_inner_works_) rfl
  have m_inner_works := He.glo_ok X G (c.fact 4 (f := .glo "inner_works") rfl)
  obtain ⟨fd_form_fault, F_form_fault⟩ := c.def_ 5 (d := d_form_fault_) rfl
  have m_form_fault := He.glo_ok X G (c.fact 5 (f := .glo "form_fault") rfl)
  obtain ⟨fd_inner_pairs, F_inner_pairs⟩ := c.def_ 6 (d := d_inner_pairs_) rfl
  have m_inner_pairs := He.glo_ok X G (c.fact 6 (f := .glo "inner_pairs") rfl)
  obtain ⟨fd_work_fault, F_work_fault⟩ := c.def_ 7 (d := d_work_fault_) rfl
  have m_work_fault := He.glo_ok X G (c.fact 7 (f := .glo "work_fault") rfl)
  obtain ⟨fd_is_work, F_is_work⟩ := c.def_ 8 (d := d_is_work_) rfl
  have m_is_work := He.glo_ok X G (c.fact 8 (f := .glo "is_work") rfl)
  obtain ⟨fd_require_usable, F_require_usable⟩ := c.def_ 9 (d := d_require_usable_) rfl
  have m_require_usable := He.glo_ok X G (c.fact 9 (f := .glo "require_usable") rfl)
  obtain ⟨fd_all_pairs, F_all_pairs⟩ := c.def_ 10 (d := d_all_pairs_) rfl
  have m_all_pairs := He.glo_ok X G (c.fact 10 (f := .glo "all_pairs") rfl)
  obtain ⟨fd_works_along, F_works_along⟩ := c.def_ 11 (d := d_works_along_) rfl
  have m_works_along := He.glo_ok X G (c.fact 11 (f := .glo "works_along") rfl)
  obtain ⟨fd_put_inner, F_put_inner⟩ := c.def_ 12 (d := d_put_inner_) rfl
  have m_put_inner := He.glo_ok X G (c.fact 12 (f := .glo "put_inner") rfl)
  obtain ⟨fd_put_along, F_put_along⟩ := c.def_ 13 (d := d_put_along_) rfl
  have m_put_along := He.glo_ok X G (c.fact 13 (f := .glo "put_along") rfl)
  obtain ⟨fd_parts_of, F_parts_of⟩ := c.def_ 14 (d := d_parts_of_) rfl
  have m_parts_of := He.glo_ok X G (c.fact 14 (f := .glo "parts_of") rfl)
  obtain ⟨fd_part_at, F_part_at⟩ := c.def_ 15 (d := d_part_at_) rfl
  have m_part_at := He.glo_ok X G (c.fact 15 (f := .glo "part_at") rfl)
  obtain ⟨fd_with_part, F_with_part⟩ := c.def_ 16 (d := d_with_part_) rfl
  have m_with_part := He.glo_ok X G (c.fact 16 (f := .glo "with_part") rfl)
  obtain ⟨fd_size_of, F_size_of⟩ := c.def_ 17 (d := d_size_of_) rfl
  have m_size_of := He.glo_ok X G (c.fact 17 (f := .glo "size_of") rfl)
  obtain ⟨fd_depth_of, F_depth_of⟩ := c.def_ 18 (d := d_depth_of_) rfl
  have m_depth_of := He.glo_ok X G (c.fact 18 (f := .glo "depth_of") rfl)
  obtain ⟨fd_loops_of, F_loops_of⟩ := c.def_ 19 (d := d_loops_of_) rfl
  have m_loops_of := He.glo_ok X G (c.fact 19 (f := .glo "loops_of") rfl)
  obtain ⟨fd_counted_along, F_counted_along⟩ := c.def_ 20 (d := d_counted_along_) rfl
  have m_counted_along := He.glo_ok X G (c.fact 20 (f := .glo "counted_along") rfl)
  obtain ⟨fd_bounds_of, F_bounds_of⟩ := c.def_ 21 (d := d_bounds_of_) rfl
  have m_bounds_of := He.glo_ok X G (c.fact 21 (f := .glo "bounds_of") rfl)
  obtain ⟨fd_with_told, F_with_told⟩ := c.def_ 22 (d := d_with_told_) rfl
  have m_with_told := He.glo_ok X G (c.fact 22 (f := .glo "with_told") rfl)
  obtain ⟨fd_told_first, F_told_first⟩ := c.def_ 23 (d := d_told_first_) rfl
  have m_told_first := He.glo_ok X G (c.fact 23 (f := .glo "told_first") rfl)
  obtain ⟨fd_told_last, F_told_last⟩ := c.def_ 24 (d := d_told_last_) rfl
  have m_told_last := He.glo_ok X G (c.fact 24 (f := .glo "told_last") rfl)
  obtain ⟨fd_with_bounds, F_with_bounds⟩ := c.def_ 25 (d := d_with_bounds_) rfl
  have m_with_bounds := He.glo_ok X G (c.fact 25 (f := .glo "with_bounds") rfl)
  obtain ⟨fd_is_path_of, F_is_path_of⟩ := c.def_ 26 (d := d_is_path_of_) rfl
  have m_is_path_of := He.glo_ok X G (c.fact 26 (f := .glo "is_path_of") rfl)
  obtain ⟨fd_told_at, F_told_at⟩ := c.def_ 27 (d := d_told_at_) rfl
  have m_told_at := He.glo_ok X G (c.fact 27 (f := .glo "told_at") rfl)
  obtain ⟨fd_require_paper, F_require_paper⟩ := c.def_ 28 (d := d_require_paper_) rfl
  have m_require_paper := He.glo_ok X G (c.fact 28 (f := .glo "require_paper") rfl)
  obtain ⟨fd_fewest_ticks, F_fewest_ticks⟩ := c.def_ 29 (d := d_fewest_ticks_) rfl
  have m_fewest_ticks := He.glo_ok X G (c.fact 29 (f := .glo "fewest_ticks") rfl)
  obtain ⟨fd_lets_work, F_lets_work⟩ := c.def_ 30 (d := d_lets_work_) rfl
  have m_lets_work := He.glo_ok X G (c.fact 30 (f := .glo "lets_work") rfl)
  obtain ⟨fd_law_feed, F_law_feed⟩ := c.def_ 31 (d := d_law_feed_) rfl
  have m_law_feed := He.glo_ok X G (c.fact 31 (f := .glo "_law_feed") rfl)
  obtain ⟨fd_law_draw, F_law_draw⟩ := c.def_ 32 (d := d_law_draw_) rfl
  have m_law_draw := He.glo_ok X G (c.fact 32 (f := .glo "_law_draw") rfl)
  obtain ⟨fd_law_subs, F_law_subs⟩ := c.def_ 33 (d := d_law_subs_) rfl
  have m_law_subs := He.glo_ok X G (c.fact 33 (f := .glo "_law_subs") rfl)
  obtain ⟨fd_law_fewest, F_law_fewest⟩ := c.def_ 34 (d := d_law_fewest_) rfl
  have m_law_fewest := He.glo_ok X G (c.fact 34 (f := .glo "_law_fewest") rfl)
  obtain ⟨fd_law_bounds, F_law_bounds⟩ := c.def_ 35 (d := d_law_bounds_) rfl
  have m_law_bounds := He.glo_ok X G (c.fact 35 (f := .glo "_law_bounds") rfl)
  obtain ⟨fd_law_free_work, F_law_free_work⟩ := c.def_ 36 (d := d_law_free_work_) rfl
  have m_law_free_work := He.glo_ok X G (c.fact 36 (f := .glo "_law_free_work") rfl)
  obtain ⟨fd_law_work, F_law_work⟩ := c.def_ 37 (d := d_law_work_) rfl
  have m_law_work := He.glo_ok X G (c.fact 37 (f := .glo "_law_work") rfl)
  obtain ⟨fd_law_second, F_law_second⟩ := c.def_ 38 (d := d_law_second_) rfl
  have m_law_second := He.glo_ok X G (c.fact 38 (f := .glo "_law_second") rfl)
  obtain ⟨fd_law_parts_right, F_law_parts_right⟩ := c.def_ 39 (d := d_law_parts_right_) rfl
  have m_law_parts_right := He.glo_ok X G (c.fact 39 (f := .glo "_law_parts_right") rfl)
  obtain ⟨fd_law_loops_right, F_law_loops_right⟩ := c.def_ 40 (d := d_law_loops_right_) rfl
  have m_law_loops_right := He.glo_ok X G (c.fact 40 (f := .glo "_law_loops_right") rfl)
  obtain ⟨fd_law_apart_right, F_law_apart_right⟩ := c.def_ 41 (d := d_law_apart_right_) rfl
  have m_law_apart_right := He.glo_ok X G (c.fact 41 (f := .glo "_law_apart_right") rfl)
  obtain ⟨fd_law, F_law⟩ := c.def_ 42 (d := d_law_) rfl
  have m_law := He.glo_ok X G (c.fact 42 (f := .glo "law") rfl)
  have e := hfa.symm.trans m_law
  cases e
  have b := FunD.bindsA (ps := ["_law_script"]) F_law fun _ _ _ _ _ _ us hl => match us, hl with | [_], _ => rfl
  refine ⟨fd_law, fun s v => b s [v] rfl, fun base _ _ => ?_⟩
  clear X G c hfa
  have C_law_second := k_law_second (P := P) (w := w) (base := base) (k := 0) T  F_law_second m_law_second (fun _ _ _ _ h => by rcases h with ⟨_, ⟨rfl, _⟩, _⟩ <;> rfl) K03.law_second_rd
  have C_law_subs := k_law_subs (P := P) (w := w) (base := base) (k := 0) T  F_law_subs m_law_subs (fun _ _ _ _ h => by rcases h with ⟨_, rfl, _⟩ <;> rfl) K03.law_subs_rd
  have C_law_fewest : ∀ n, n ≤ 40 → Callee P w K mg base (n + 1) "_law_fewest" P_law_fewest (pSp (RfeL n)) := by
    intro n
    induction n with
    | zero => exact fun _ => (z_law_fewest F_law_fewest m_law_fewest noRfe0).up (by omega)
    | succ n ih => exact fun hn => k_law_fewest T (C_law_subs.up (by omega)) (ih (by omega)) F_law_fewest m_law_fewest (fun _ _ _ _ h => by rcases h with ⟨_, ⟨_, rfl, _⟩, _⟩ <;> rfl) (K12.law_fewest_rd)
  have C_law_draw := k_law_draw (P := P) (w := w) (base := base) (k := 0) T  F_law_draw m_law_draw (fun _ _ _ _ h => by rcases h with ⟨_, _, rfl, _⟩ <;> rfl) K03.law_draw_rd
  have C_law_bounds := k_law_bounds (P := P) (w := w) (base := base) (k := 1) T (C_law_draw.up (by omega)) F_law_bounds m_law_bounds (fun _ _ _ _ h => by rcases h with ⟨_, rfl, _⟩ <;> rfl) K03.law_bounds_rd
  have C_law_free_work : ∀ n, n ≤ 4 → Callee P w K mg base (n + 2) "_law_free_work" P_law_free_work (spFW n) := by
    intro n
    induction n with
    | zero => exact fun _ => (z_law_free_work F_law_free_work m_law_free_work noFW0).up (by omega)
    | succ n ih => exact fun hn => k_law_free_work T (ih (by omega)) (C_law_draw.up (by omega)) (C_law_bounds.up (by omega)) F_law_free_work m_law_free_work (fun _ _ _ _ h => by rcases h with ⟨_, _, rfl, _⟩ <;> rfl) (law_free_work_rd)
  have C_law_work := k_law_work (P := P) (w := w) (base := base) (k := 41) T ((C_law_fewest 40 (by decide)).up (by omega)) ((C_law_free_work 4 (by decide)).up (by omega)) F_law_work m_law_work (fun _ _ _ _ h => by rcases h with ⟨_, _, rfl, _⟩ <;> rfl) (K12.law_work_rd (by omega) (by omega))
  have C_inner_works := k_inner_works (P := P) (w := w) (base := base) (k := 0) T  F_inner_works m_inner_works (fun _ _ _ _ h => by rcases h with ⟨_, ⟨_, rfl, _⟩, _⟩ <;> rfl) K03.inner_works_rd
  have C_inner_pairs := k_inner_pairs (P := P) (w := w) (base := base) (k := 1) T (C_inner_works.up (by omega)) F_inner_pairs m_inner_pairs (fun _ _ _ _ h => by rcases h with ⟨_, ⟨_, _, rfl, _⟩, _⟩ <;> rfl) K03.inner_pairs_rd
  have C_all_pairs := k_all_pairs (P := P) (w := w) (base := base) (k := 2) T (C_inner_pairs.up (by omega)) F_all_pairs m_all_pairs (fun _ _ _ _ h => by rcases h with ⟨_, ⟨_, rfl, _⟩, _⟩ <;> rfl) K03.all_pairs_rd
  have C_require_paper := k_require_paper (P := P) (w := w) (base := base) (k := 0) T  F_require_paper m_require_paper (fun _ _ _ _ h => by rcases h with ⟨_, ⟨_, _, rfl, _⟩, _⟩ <;> rfl) require_paper_rd
  have C_fewest_ticks := k_fewest_ticks (P := P) (w := w) (base := base) (k := 3) T (C_all_pairs.up (by omega)) F_fewest_ticks m_fewest_ticks (fun _ _ _ _ h => by rcases h with ⟨_, ⟨_, rfl, _⟩, _⟩ <;> rfl) K12.fewest_ticks_rd
  have C_is_integer := k_is_integer (P := P) (w := w) (base := base) (k := 0) T  F_is_integer m_is_integer (fun _ _ _ _ h => by rcases h with ⟨_, ⟨_, rfl, _⟩, _⟩ <;> rfl) K03.is_integer_rd
  have C_is_number := k_is_number (P := P) (w := w) (base := base) (k := 1) T (C_is_integer.up (by omega)) F_is_number m_is_number (fun _ _ _ _ h => by rcases h with ⟨_, ⟨_, rfl, _⟩, _⟩ <;> rfl) K03.is_number_rd
  have C_is_amount := k_is_amount (P := P) (w := w) (base := base) (k := 1) T (C_is_integer.up (by omega)) F_is_amount m_is_amount (fun _ _ _ _ h => by rcases h with ⟨_, ⟨_, rfl, _⟩, _⟩ <;> rfl) K03.is_amount_rd
  have C_work_word := k_work_word (P := P) (w := w) (base := base) (k := 0) T  F_work_word m_work_word (fun _ _ _ _ h => by rcases h with ⟨_, ⟨_, rfl, _⟩ | ⟨_, _, rfl, _⟩, _⟩ <;> rfl) K03.work_word_rd
  have C_form_fault := k_form_fault (P := P) (w := w) (base := base) (k := 2) T (C_is_number.up (by omega)) (C_is_amount.up (by omega)) (C_work_word.up (by omega)) F_form_fault m_form_fault (fun _ _ _ _ h => by rcases h with ⟨_, ⟨_, rfl, _⟩ | ⟨_, _, rfl, _⟩, _⟩ <;> rfl) K03.form_fault_rd
  have C_work_fault := k_work_fault (P := P) (w := w) (base := base) (k := 3) T (C_inner_pairs.up (by omega)) (C_form_fault.up (by omega)) F_work_fault m_work_fault (fun _ _ _ _ h => by rcases h with ⟨_, ⟨_, rfl, _⟩ | ⟨_, _, rfl, _⟩, _⟩ <;> rfl) K03.work_fault_rd
  have C_lets_work := k_lets_work (P := P) (w := w) (base := base) (k := 4) T (C_all_pairs.up (by omega)) (C_require_paper.up (by omega)) (C_fewest_ticks.up (by omega)) (C_work_fault.up (by omega)) F_lets_work m_lets_work (fun _ _ _ _ h => by rcases h with ⟨_, ⟨_, rfl, _⟩, _⟩ <;> rfl) K12.lets_work_rd
  have C_size_of := k_size_of (P := P) (w := w) (base := base) (k := 3) T (C_all_pairs.up (by omega)) F_size_of m_size_of (fun _ _ _ _ h => by rcases h with ⟨_, ⟨_, rfl, _⟩, _⟩ <;> rfl) K03.size_of_rd
  have C_put_inner := k_put_inner (P := P) (w := w) (base := base) (k := 0) T  F_put_inner m_put_inner (fun _ _ _ _ h => by rcases h with ⟨_, ⟨_, _, _, rfl, _⟩, _⟩ <;> rfl) K03.put_inner_rd
  have C_put_along := k_put_along (P := P) (w := w) (base := base) (k := 1) T (C_put_inner.up (by omega)) F_put_along m_put_along (fun _ _ _ _ h => by rcases h with ⟨_, ⟨_, _, _, _, rfl, _⟩, _⟩ <;> rfl) K03.put_along_rd
  have C_require_usable := k_require_usable (P := P) (w := w) (base := base) (k := 0) T  F_require_usable m_require_usable (fun _ _ _ _ h => by rcases h with ⟨_, ⟨_, _, rfl, _⟩, _⟩ <;> rfl) K12.require_usable_rd
  have C_is_work := k_is_work (P := P) (w := w) (base := base) (k := 4) T (C_work_fault.up (by omega)) F_is_work m_is_work (fun _ _ _ _ h => by rcases h with ⟨_, ⟨_, rfl, _⟩ | ⟨_, _, rfl, _⟩, _⟩ <;> rfl) K03.is_work_rd
  have C_works_along := k_works_along (P := P) (w := w) (base := base) (k := 2) T (C_require_usable.up (by omega)) (C_is_number.up (by omega)) (C_inner_works.up (by omega)) F_works_along m_works_along (fun _ _ _ _ h => by rcases h with ⟨_, ⟨_, _, _, rfl, _⟩, _⟩ <;> rfl) K12.works_along_rd
  have C_with_part := k_with_part (P := P) (w := w) (base := base) (k := 5) T (C_put_along.up (by omega)) (C_require_usable.up (by omega)) (C_is_work.up (by omega)) (C_works_along.up (by omega)) F_with_part m_with_part (fun _ _ _ _ h => by rcases h with ⟨_, ⟨_, _, _, _, rfl, _⟩, _⟩ <;> rfl) K12.with_part_rd
  have C_parts_of := k_parts_of (P := P) (w := w) (base := base) (k := 3) T (C_all_pairs.up (by omega)) F_parts_of m_parts_of (fun _ _ _ _ h => by rcases h with ⟨_, ⟨_, rfl, _⟩, _⟩ <;> rfl) K03.parts_of_rd
  have C_law_apart_right := k_law_apart_right (P := P) (w := w) (base := base) (k := 6) T (C_with_part.up (by omega)) (C_parts_of.up (by omega)) F_law_apart_right m_law_apart_right (fun _ _ _ _ h => by rcases h with ⟨_, ⟨_, rfl, _⟩, _⟩ <;> rfl) K12.law_apart_right_rd
  have C_counted_along := k_counted_along (P := P) (w := w) (base := base) (k := 3) T (C_require_usable.up (by omega)) (C_works_along.up (by omega)) F_counted_along m_counted_along (fun _ _ _ _ h => by rcases h with ⟨_, ⟨_, _, _, _, rfl, _⟩, _⟩ <;> rfl) K12.counted_along_rd
  have C_with_told := k_with_told (P := P) (w := w) (base := base) (k := 4) T (C_put_along.up (by omega)) (C_counted_along.up (by omega)) F_with_told m_with_told (fun _ _ _ _ h => by rcases h with ⟨_, ⟨_, _, _, rfl, _⟩, _⟩ <;> rfl) K12.with_told_rd
  have C_told_first := k_told_first (P := P) (w := w) (base := base) (k := 5) T (C_with_told.up (by omega)) F_told_first m_told_first (fun _ _ _ _ h => by rcases h with ⟨_, ⟨_, _, rfl, _⟩, _⟩ <;> rfl) K12.told_first_rd
  have C_is_path_of := k_is_path_of (P := P) (w := w) (base := base) (k := 2) T (C_is_number.up (by omega)) F_is_path_of m_is_path_of (fun _ _ _ _ h => by rcases h with ⟨_, ⟨_, _, _, rfl, _⟩, _⟩ <;> rfl) K04.is_path_of_rd
  have C_loops_of := k_loops_of (P := P) (w := w) (base := base) (k := 3) T (C_all_pairs.up (by omega)) F_loops_of m_loops_of (fun _ _ _ _ h => by rcases h with ⟨_, ⟨_, rfl, _⟩, _⟩ <;> rfl) K04.loops_of_rd
  have C_told_at := k_told_at (P := P) (w := w) (base := base) (k := 5) T (C_with_told.up (by omega)) (C_require_usable.up (by omega)) (C_is_path_of.up (by omega)) (C_loops_of.up (by omega)) F_told_at m_told_at (fun _ _ _ _ h => by rcases h with ⟨_, ⟨_, _, rfl, _⟩, _⟩ <;> rfl) K12.told_at_rd
  have C_with_bounds := k_with_bounds (P := P) (w := w) (base := base) (k := 4) T (C_put_along.up (by omega)) (C_require_usable.up (by omega)) (C_is_number.up (by omega)) (C_counted_along.up (by omega)) F_with_bounds m_with_bounds (fun _ _ _ _ h => by rcases h with ⟨_, ⟨_, _, _, _, _, rfl, _⟩, _⟩ <;> rfl) K12.with_bounds_rd
  have C_bounds_of := k_bounds_of (P := P) (w := w) (base := base) (k := 4) T (C_counted_along.up (by omega)) F_bounds_of m_bounds_of (fun _ _ _ _ h => by rcases h with ⟨_, ⟨_, _, _, rfl, _⟩, _⟩ <;> rfl) K12.bounds_of_rd
  have C_told_last := k_told_last (P := P) (w := w) (base := base) (k := 5) T (C_with_told.up (by omega)) F_told_last m_told_last (fun _ _ _ _ h => by rcases h with ⟨_, ⟨_, _, rfl, _⟩, _⟩ <;> rfl) K12.told_last_rd
  have C_law_loops_right := k_law_loops_right (P := P) (w := w) (base := base) (k := 6) T (C_told_first.up (by omega)) (C_told_at.up (by omega)) (C_with_bounds.up (by omega)) (C_size_of.up (by omega)) (C_bounds_of.up (by omega)) (C_loops_of.up (by omega)) (C_told_last.up (by omega)) (C_is_number.up (by omega)) (C_parts_of.up (by omega)) F_law_loops_right m_law_loops_right (fun _ _ _ _ h => by rcases h with ⟨_, ⟨_, rfl, _⟩, _⟩ <;> rfl) K12.law_loops_right_rd
  have C_depth_of := k_depth_of (P := P) (w := w) (base := base) (k := 3) T (C_all_pairs.up (by omega)) F_depth_of m_depth_of (fun _ _ _ _ h => by rcases h with ⟨_, ⟨_, rfl, _⟩, _⟩ <;> rfl) K03.depth_of_rd
  have C_part_at := k_part_at (P := P) (w := w) (base := base) (k := 3) T (C_works_along.up (by omega)) F_part_at m_part_at (fun _ _ _ _ h => by rcases h with ⟨_, ⟨_, _, _, _, rfl, _⟩, _⟩ <;> rfl) K12.part_at_rd
  have C_law_parts_right := k_law_parts_right (P := P) (w := w) (base := base) (k := 6) T (C_is_work.up (by omega)) (C_depth_of.up (by omega)) (C_size_of.up (by omega)) (C_with_part.up (by omega)) (C_part_at.up (by omega)) (C_parts_of.up (by omega)) F_law_parts_right m_law_parts_right (fun _ _ _ _ h => by rcases h with ⟨_, ⟨_, _, rfl, _⟩, _⟩ <;> rfl) K12.law_parts_right_rd
  have C_law_feed := k_law_feed (P := P) (w := w) (base := base) (k := 0) T  F_law_feed m_law_feed (fun _ _ _ _ h => by rcases h with ⟨_, rfl, _⟩ <;> rfl) K03.law_feed_rd
  exact dfn_of (k := 42) F_law sc_law (fun _ _ _ _ h => by rcases h with ⟨_, rfl, _⟩ <;> rfl) (b_law T (C_law_second.up (by omega)) (C_law_work.up (by omega)) (C_lets_work.up (by omega)) (C_size_of.up (by omega)) (C_law_apart_right.up (by omega)) (C_law_loops_right.up (by omega)) (C_law_parts_right.up (by omega)) ((C_law_free_work 4 (by decide)).up (by omega)) (C_law_feed.up (by omega))) (K12.law_rd (by omega))
end K12
theorem PySem.Challenge.cw_honestbars_k12_whole_parts_and_bounds_holds : PySem.Challenge.rw_honestbars_k12_whole_parts_and_bounds.Holds :=
  K12.head_of (sp := K12.spLaw12) (fun ns hl => ⟨ns, rfl, fun _ => rfl⟩) fun w mg fa h K KX c G hmg => K12.facts KX G hmg c


