import PyProof.Rows.All
import Wide.All
import OpenK.AllK
import Wide.FinOn
import HandS.ForMost
import HandS.ForExc
import HandS.HeadHook1
import HandS.Slots
import HandS.Defaults
import HandS.TupAny
import HandS.TupMul
import HandS.Wide
import HandS.Style
import HandS.Star
import HandS.IsInst
import HandS.Flow
import HandS.Conv
import KE.GoesEnum
import HandS.Head0
import HandS.Head1
import HandS.Head2
import HandS.HeadEnd
import HandS.HeadHook2
import KE.KExcSuper
import HandS.ExcInit
import HandS.Nested
import HandS.Lambda
import HandS.ExcIs
import HandS.ExcField
import KE.KExcIs
import KE.DataAny
import HandS.HeadHook4
import HandS.EndTab
import HandS.NestedK
import KE.KRevSl
import HandS.Strs
import HandS.SetBool
import HandS.SetFor
import PyProof.ListNew
import HandS.SortInts
import HandS.GenList
import KE.DataEq
import HandS.TupLe
import KE.LtData
import KE.KSortTup
import HandS.SortRule
import KE.KDictList
import HandS.HeadHook3
import KE.GoesMore
import HandS.Zip
import HandS.SlotsOwn
import HandS.Property
import HandS.MakeKw
import HandS.NamedTupGet
import HandS.HotCalls
import KE.KIntText
import PySem.Challenge.RW_honestbars_k04_bounds_told
set_option Elab.async false
set_option linter.all false
set_option maxRecDepth 100000
set_option maxHeartbeats 0
namespace Dl
open PySem L2

inductive D where
  | non
  | bl (b : Bool)
  | int (i : Int)
  | str (x : Str)
  | byt (b : Array UInt8)
  | tup (xs : List D)
  | lst (xs : List D)
  | ref (a : Addr)
  /-- the script: a list of ints that is read alone -/
  | scr (ns : List Int)
  /-- a lambda, by what is true of its object and its code object (of the name q); n0, H0: what stood when it was handed on -/
  | fn (q : Str) (φ : Addr → Addr → Heap → Prop) (n0 : Addr → Prop) (H0 : Hp)
  /-- an exception at a that is handled: of the class of the name c, its fields at d -/
  | exh (a : Addr) (c : Str) (d : Addr) (ns : List Str) (vs : List D)

inductive DO where
  | lst (xs : List D)
  | dct (kvs : List (Key × D))
  | raw (o : HO)
  /-- an instance of the class of that name, its attributes -/
  | ins (c : Str) (fs : List (Str × D))
  /-- a dict whose keys are tuples of ints and texts -/
  | dtp (kvs : List (List Key × D))
  /-- a table of code objects of the name q -/
  | tab (q : Str)
  /-- an instance with slots of the class of the name c -/
  | slt (c : Str) (vs : List (Option D))

abbrev GH := Addr → Option DO
def updG (G : GH) (a : Addr) (o : DO) : GH := fun b => if b = a then some o else G b
def dropG (G : GH) (a : Addr) : GH := fun b => if b = a then none else G b
theorem updG_same {G : GH} {a : Addr} {o : DO} : updG G a o a = some o := by unfold updG; rw [if_pos rfl]
theorem updG_ne {G : GH} {a b : Addr} {o : DO} (h : b ≠ a) : updG G a o b = G b := by unfold updG; rw [if_neg h]
theorem dropG_same {G : GH} {a : Addr} : dropG G a a = none := by unfold dropG; rw [if_pos rfl]
theorem dropG_ne {G : GH} {a b : Addr} (h : b ≠ a) : dropG G a b = G b := by unfold dropG; rw [if_neg h]
theorem updG_updG {G : GH} {a : Addr} {o u : DO} : updG (updG G a o) a u = updG G a u := by
  funext b; unfold updG; split <;> rfl
theorem dropG_updG {G : GH} {a : Addr} {o : DO} (h : G a = none) : dropG (updG G a o) a = G := by
  funext b
  by_cases e : b = a
  · subst e; rw [dropG_same, h]
  · rw [dropG_ne e, updG_ne e]
def kempB (K : PySem.W.Frag) : Bool := K.any fun p => match p.2 with
  | ⟨.type c, _, .seq its _, _⟩ => decide (c = "tuple") && (match its.toList with
    | .str x _ :: _ => decide (x = ("row" : Str))
    | _ => false)
  | _ => false
def TupAt (K : PySem.W.Frag) (G : GH) (H : Hp) (a : Addr) (xs : List V) : Prop := (G a = none ∧ H a = some (.tup xs)) ∨
  (xs = [] → kempB K = true) ∧ ∃ (o : Obj) (its : Array Value) (n : Nat), K.lookup a = some o ∧ o.cls = .type "tuple" ∧ o.data = .seq its n ∧ its.size ≤ sizeLine ∧ Vals xs its.toList
def LstAt (G : GH) (H : Hp) (a : Addr) (xs : List V) : Prop := G a = none ∧ H a = some (.lst xs)
theorem TupAt.sq {K : PySem.W.Frag} {G : GH} {H : Hp} {a : Addr} {xs : List V} (h : TupAt K G H a xs) : SqT K H a xs := h.elim (fun h => .inl (.inl h.2)) (fun h => .inr h.2)
theorem LstAt.sq {K : PySem.W.Frag} {G : GH} {H : Hp} {a : Addr} {xs : List V} (h : LstAt G H a xs) : SqL K H a xs := SqL.of h.2
def ScrAt (K : PySem.W.Frag) (G : GH) (H : Hp) (a : Addr) (xs : List V) : Prop := (G a = none ∧ Rd H a (.lst xs)) ∨
  ∃ (o : Obj) (its : Array Value) (n : Nat), K.lookup a = some o ∧ o.cls = .type "list" ∧ o.dict = none ∧ o.data = .seq its n ∧ its.size ≤ sizeLine ∧ Vals xs its.toList
theorem ScrAt.sq {K : PySem.W.Frag} {G : GH} {H : Hp} {a : Addr} {xs : List V} (h : ScrAt K G H a xs) : SqL K H a xs := h.elim (fun h => .inl h.2) .inr
def CodeQ (c : Addr) (q : Str) : HO := .ext fun h => ∃ (oc : Obj) (vs : Array Value) (t : Tok), h.get? c = some oc ∧ oc.data = .fields vs ∧ vs[1]? = some (.str q t)
mutual
def RepV (K : PySem.W.Frag) (G : GH) (H : Hp) : D → V → Prop
  | .non, v => v = .non
  | .bl b, v => v = .bl b
  | .int i, v => v = .int i
  | .str x, v => v = .str x
  | .byt x, v => v = .byt x
  | .tup ds, v => ∃ a xs, v = .ref a ∧ TupAt K G H a xs ∧ RepL K G H ds xs
  | .lst ds, v => ∃ a xs, v = .ref a ∧ LstAt G H a xs ∧ RepL K G H ds xs
  | .ref a, v => v = .ref a
  | .scr ns, v => ∃ a, v = .ref a ∧ ScrAt K G H a (ns.map V.int)
  | .fn q φ n0 H0, v => ∃ a c, v = .ref a ∧ G a = none ∧ H a = some (.ext (φ a c)) ∧ G c = none ∧ H c = some (CodeQ c q) ∧ ∀ b o, H0 b = some o → (∃ o', H b = some o') ∧ (n0 b → G b = none ∧ H b = some o)
  | .exh a c d ns ds, v => ∃ ws : List (Str × V), v = .ref a ∧ G d = none ∧ H d = some (.xd ws) ∧ ws.map (·.1) = ns ∧ RepL K G H ds (ws.map (·.2))
def RepL (K : PySem.W.Frag) (G : GH) (H : Hp) : List D → List V → Prop
  | [], xs => xs = []
  | d :: ds, xs => ∃ x r, xs = x :: r ∧ RepV K G H d x ∧ RepL K G H ds r
end

def Ext (G : GH) (H : Hp) (G' : GH) (H' : Hp) : Prop := ∀ a o, H a = some o → (∃ o', H' a = some o') ∧ (G a = none → G' a = none ∧ H' a = some o)
theorem Ext.refl (G : GH) (H : Hp) : Ext G H G H := fun a o h => ⟨⟨o, h⟩, fun g => ⟨g, h⟩⟩
theorem Ext.trans {G G1 G2 : GH} {H H1 H2 : Hp} (a : Ext G H G1 H1) (b : Ext G1 H1 G2 H2) : Ext G H G2 H2 := fun x o h => by
  obtain ⟨⟨o1, h1⟩, k⟩ := a x o h
  obtain ⟨⟨o2, h2⟩, _⟩ := b x o1 h1
  refine ⟨⟨o2, h2⟩, fun g => ?_⟩
  obtain ⟨g1, e1⟩ := k g
  exact (b x o e1).2 g1
theorem Ext.new {G : GH} {H : Hp} {p : Addr} {o : HO} (h : H p = none) : Ext G H G (upd H p o) := fun a u e => by
  have n : a ≠ p := ne_of_none e h
  rw [upd_ne n]
  exact ⟨⟨u, e⟩, fun g => ⟨g, e⟩⟩
theorem Ext.newG {G : GH} {H : Hp} {p : Addr} {o : HO} {u : DO} (h : H p = none) : Ext G H (updG G p u) (upd H p o) := fun a v e => by
  have n : a ≠ p := ne_of_none e h
  rw [upd_ne n, updG_ne n]
  exact ⟨⟨v, e⟩, fun g => ⟨g, e⟩⟩
theorem Ext.write {G : GH} {H : Hp} {p : Addr} {o : HO} {u w : DO} (h : G p = some w) : Ext G H (updG G p u) (upd H p o) := fun a v e => by
  by_cases n : a = p
  · subst n
    refine ⟨⟨_, upd_same⟩, fun g => ?_⟩
    rw [h] at g; cases g
  · rw [upd_ne n, updG_ne n]
    exact ⟨⟨v, e⟩, fun g => ⟨g, e⟩⟩
theorem Ext.drop {G : GH} {H : Hp} {p : Addr} : Ext G H (dropG G p) H := fun a v e => by
  refine ⟨⟨v, e⟩, fun g => ⟨?_, e⟩⟩
  by_cases n : a = p
  · subst n; exact dropG_same
  · rw [dropG_ne n]; exact g

def TabD (G : GH) (H : Hp) (a : Addr) (q : Str) : Prop :=
  ∃ ps : Array Value, H a = some (.tbl ps) ∧ TriplesOk ps.toList ∧ ∀ (pos : Pos) (cv : Value), codeAmong pos ps.toList = some cv → ∃ c, cv = .ref c ∧ G c = none ∧ H c = some (CodeQ c q)
def RepO (K : PySem.W.Frag) (G : GH) (H : Hp) (vs : List (Option D)) (ws : List (Option V)) : Prop := vs.length = ws.length ∧ ∀ (i : Nat) (d : D), vs[i]? = some (some d) → ∃ v, ws[i]? = some (some v) ∧ RepV K G H d v
def SltD (K : PySem.W.Frag) (G : GH) (H : Hp) (a : Addr) (c : Str) (vs : List (Option D)) : Prop := ∃ (dx : Addr) (ws : List (Option V)), G dx = none ∧ H a = some (SlX.SlO a (He.ga K c) dx ws) ∧ H dx = some (.xd []) ∧ RepO K G H vs ws
def DOk (K : PySem.W.Frag) (G : GH) (H : Hp) (a : Addr) : DO → Prop
  | .lst ds => ∃ xs, H a = some (.lst xs) ∧ RepL K G H ds xs
  | .dct kvs => ∃ ws : List (Key × V), H a = some (.dK ws) ∧ ws.map (·.1) = kvs.map (·.1) ∧ RepL K G H (kvs.map (·.2)) (ws.map (·.2))
  | .raw o => H a = some o
  | .ins c fs => ∃ (dx : Addr) (ws : List (Str × V)), H a = some (.ins (He.ga K c) dx ws) ∧ ws.map (·.1) = fs.map (·.1) ∧ RepL K G H (fs.map (·.2)) (ws.map (·.2))
  | .dtp kvs => ∃ ws : List (List Key × V), H a = some (.dT ws) ∧ ws.map (·.1) = kvs.map (·.1) ∧ RepL K G H (kvs.map (·.2)) (ws.map (·.2))
  | .tab q => TabD G H a q
  | .slt c vs => SltD K G H a c vs
def GOk (K : PySem.W.Frag) (G : GH) (H : Hp) : Prop := ∀ a o, G a = some o → DOk K G H a o
theorem DOk.there {K : PySem.W.Frag} {G : GH} {H : Hp} {a : Addr} {o : DO} (h : DOk K G H a o) : ∃ u, H a = some u := by
  cases o with
  | lst ds => obtain ⟨xs, e, _⟩ := h; exact ⟨_, e⟩
  | dct kvs => obtain ⟨xs, e, _⟩ := h; exact ⟨_, e⟩
  | dtp kvs => obtain ⟨xs, e, _⟩ := h; exact ⟨_, e⟩
  | raw u => exact ⟨u, h⟩
  | ins c fs => obtain ⟨dx, xs, e, _⟩ := h; exact ⟨_, e⟩
  | tab q => obtain ⟨ps, e, _⟩ := h; exact ⟨_, e⟩
  | slt c vs => obtain ⟨dx, ws, _, e, _⟩ := h; exact ⟨_, e⟩
theorem GOk.fresh {K : PySem.W.Frag} {G : GH} {H : Hp} (g : GOk K G H) {p : Addr} (h : H p = none) : G p = none := by
  cases q : G p with
  | none => rfl
  | some o =>
    obtain ⟨u, e⟩ := (g p o q).there
    rw [h] at e; cases e

section
variable {K : PySem.W.Frag} {G G' : GH} {H H' : Hp}
theorem TabD.ext (e : Ext G H G' H') {a : Addr} {q : Str} (h : TabD G H a q) (ha : H' a = H a) : TabD G' H' a q := by
  obtain ⟨ps, h1, h2, h3⟩ := h
  refine ⟨ps, ha.trans h1, h2, fun pos cv hc => ?_⟩
  obtain ⟨c, e1, g, e2⟩ := h3 pos cv hc
  exact ⟨c, e1, (e _ _ e2).2 g⟩
theorem TupAt.ext (e : Ext G H G' H') {a : Addr} {xs : List V} (h : TupAt K G H a xs) : TupAt K G' H' a xs := by
  rcases h with ⟨g, h⟩ | h
  · exact .inl (((e _ _ h).2 g))
  · exact .inr h
theorem ScrAt.ext (e : Ext G H G' H') {a : Addr} {xs : List V} (h : ScrAt K G H a xs) : ScrAt K G' H' a xs := by
  rcases h with ⟨g, h | ⟨o, h⟩⟩ | h
  · exact .inl ⟨((e _ _ h).2 g).1, .inl ((e _ _ h).2 g).2⟩
  · exact .inl ⟨((e _ _ h).2 g).1, .inr ⟨o, ((e _ _ h).2 g).2⟩⟩
  · exact .inr h
theorem LstAt.ext (e : Ext G H G' H') {a : Addr} {xs : List V} (h : LstAt G H a xs) : LstAt G' H' a xs := (e _ _ h.2).2 h.1
mutual
theorem RepV.ext (e : Ext G H G' H') : ∀ {d : D} {v : V}, RepV K G H d v → RepV K G' H' d v
  | .non, _, h => h
  | .bl _, _, h => h
  | .int _, _, h => h
  | .str _, _, h => h
  | .byt _, _, h => h
  | .tup _, _, h => by
    unfold RepV at h ⊢
    obtain ⟨a, xs, ev, t, r⟩ := h
    exact ⟨a, xs, ev, t.ext e, r.ext e⟩
  | .lst _, _, h => by
    unfold RepV at h ⊢
    obtain ⟨a, xs, ev, t, r⟩ := h
    exact ⟨a, xs, ev, t.ext e, r.ext e⟩
  | .ref _, _, h => h
  | .scr _, _, h => by
    unfold RepV at h ⊢
    obtain ⟨a, ev, t⟩ := h
    exact ⟨a, ev, t.ext e⟩
  | .fn _ _ _ _, _, h => by
    unfold RepV at h ⊢
    obtain ⟨a, c, ev, g, t, g2, t2, k⟩ := h
    refine ⟨a, c, ev, ((e _ _ t).2 g).1, ((e _ _ t).2 g).2, ((e _ _ t2).2 g2).1, ((e _ _ t2).2 g2).2, fun b o z => ?_⟩
    obtain ⟨⟨o1, h1⟩, h2⟩ := k b o z
    exact ⟨(e b o1 h1).1, fun n => (e b o (h2 n).2).2 (h2 n).1⟩
  | .exh _ _ _ _ _, _, h => by
    unfold RepV at h ⊢
    obtain ⟨ws, ev, g, t, n, r⟩ := h
    exact ⟨ws, ev, ((e _ _ t).2 g).1, ((e _ _ t).2 g).2, n, r.ext e⟩
theorem RepL.ext (e : Ext G H G' H') : ∀ {ds : List D} {xs : List V}, RepL K G H ds xs → RepL K G' H' ds xs
  | [], _, h => h
  | _ :: _, _, h => by
    unfold RepL at h ⊢
    obtain ⟨x, r, ev, h1, h2⟩ := h
    exact ⟨x, r, ev, h1.ext e, h2.ext e⟩
end
theorem RepO.ext (e : Ext G H G' H') {vs : List (Option D)} {ws : List (Option V)} (h : RepO K G H vs ws) : RepO K G' H' vs ws := ⟨h.1, fun i d q => by obtain ⟨v, h1, h2⟩ := h.2 i d q; exact ⟨v, h1, h2.ext e⟩⟩
theorem SltD.ext (e : Ext G H G' H') {a : Addr} {c : Str} {vs : List (Option D)} (h : SltD K G H a c vs) (ha : H' a = H a) : SltD K G' H' a c vs := by
  obtain ⟨dx, ws, g, h1, h2, r⟩ := h
  obtain ⟨g', e'⟩ := (e _ _ h2).2 g
  exact ⟨dx, ws, g', by rw [ha]; exact h1, e', r.ext e⟩
theorem RepL.length : ∀ {ds : List D} {xs : List V}, RepL K G H ds xs → xs.length = ds.length
  | [], _, h => by unfold RepL at h; rw [h]; rfl
  | _ :: ds, _, h => by
    unfold RepL at h
    obtain ⟨x, r, rfl, _, h2⟩ := h
    simp [RepL.length h2]
theorem repL_nil : RepL K G H [] [] := by unfold RepL; rfl
theorem repL_cons {d : D} {ds : List D} {x : V} {xs : List V} (h : RepV K G H d x) (r : RepL K G H ds xs) : RepL K G H (d :: ds) (x :: xs) := by
  unfold RepL; exact ⟨x, xs, rfl, h, r⟩
theorem repL_one {d : D} {x : V} (h : RepV K G H d x) : RepL K G H [d] [x] := repL_cons h repL_nil
theorem RepL.append : ∀ {ds es : List D} {xs ys : List V}, RepL K G H ds xs → RepL K G H es ys → RepL K G H (ds ++ es) (xs ++ ys)
  | [], _, _, _, h, r => by unfold RepL at h; subst h; exact r
  | _ :: _, _, _, _, h, r => by
    unfold RepL at h
    obtain ⟨x, t, rfl, h1, h2⟩ := h
    exact repL_cons h1 (RepL.append h2 r)
theorem RepL.get : ∀ {ds : List D} {xs : List V} {i : Nat} {d : D}, RepL K G H ds xs → ds[i]? = some d → ∃ x, xs[i]? = some x ∧ RepV K G H d x
  | [], _, _, _, _, e => by simp at e
  | _ :: _, _, 0, _, h, e => by
    unfold RepL at h
    obtain ⟨x, t, rfl, h1, h2⟩ := h
    simp at e; subst e
    exact ⟨x, rfl, h1⟩
  | _ :: ds, _, i + 1, d, h, e => by
    unfold RepL at h
    obtain ⟨x, t, rfl, h1, h2⟩ := h
    obtain ⟨y, e1, e2⟩ := RepL.get (i := i) (d := d) h2 (by simpa using e)
    exact ⟨y, by simpa using e1, e2⟩
theorem RepL.get' : ∀ {ds : List D} {xs : List V} {i : Nat} {x : V}, RepL K G H ds xs → xs[i]? = some x → ∃ d, ds[i]? = some d ∧ RepV K G H d x
  | [], _, _, _, h, e => by unfold RepL at h; subst h; simp at e
  | _ :: _, _, 0, _, h, e => by
    unfold RepL at h
    obtain ⟨x, t, rfl, h1, h2⟩ := h
    simp at e; subst e
    exact ⟨_, rfl, h1⟩
  | _ :: ds, _, i + 1, d, h, e => by
    unfold RepL at h
    obtain ⟨x, t, rfl, h1, h2⟩ := h
    obtain ⟨y, e1, e2⟩ := RepL.get' (i := i) (x := d) h2 (by simpa using e)
    exact ⟨y, by simpa using e1, e2⟩
theorem RepL.take : ∀ {ds : List D} {xs : List V} (n : Nat), RepL K G H ds xs → RepL K G H (ds.take n) (xs.take n)
  | _, _, 0, _ => by simp [repL_nil]
  | [], _, _ + 1, h => by unfold RepL at h; subst h; simp [repL_nil]
  | _ :: _, _, n + 1, h => by
    unfold RepL at h
    obtain ⟨x, t, rfl, h1, h2⟩ := h
    exact repL_cons h1 (RepL.take n h2)
theorem RepL.drop : ∀ {ds : List D} {xs : List V} (n : Nat), RepL K G H ds xs → RepL K G H (ds.drop n) (xs.drop n)
  | _, _, 0, h => by simpa using h
  | [], _, _ + 1, h => by unfold RepL at h; subst h; simp [repL_nil]
  | _ :: _, _, n + 1, h => by
    unfold RepL at h
    obtain ⟨x, t, rfl, h1, h2⟩ := h
    exact RepL.drop n h2
theorem RepL.set {d : D} {x : V} (hd : RepV K G H d x) : ∀ {ds : List D} {xs : List V} (n : Nat), RepL K G H ds xs → RepL K G H (ds.set n d) (xs.set n x)
  | [], _, _, h => by unfold RepL at h; subst h; simp [repL_nil]
  | _ :: _, _, 0, h => by
    unfold RepL at h
    obtain ⟨x, t, rfl, h1, h2⟩ := h
    exact repL_cons hd h2
  | _ :: _, _, n + 1, h => by
    unfold RepL at h
    obtain ⟨x, t, rfl, h1, h2⟩ := h
    exact repL_cons h1 (RepL.set hd n h2)
theorem RepL.reverse : ∀ {ds : List D} {xs : List V}, RepL K G H ds xs → RepL K G H ds.reverse xs.reverse
  | [], _, h => by unfold RepL at h; subst h; simp [repL_nil]
  | _ :: _, _, h => by
    unfold RepL at h
    obtain ⟨x, t, rfl, h1, h2⟩ := h
    simp only [List.reverse_cons]
    exact (RepL.reverse h2).append (repL_one h1)
theorem RepL.dropLast {ds : List D} {xs : List V} (h : RepL K G H ds xs) : RepL K G H ds.dropLast xs.dropLast := by
  rw [List.dropLast_eq_take, List.dropLast_eq_take, h.length]
  exact h.take _
theorem RepL.rep {ds : List D} {xs : List V} (h : RepL K G H ds xs) : ∀ k : Nat, RepL K G H (List.replicate k ds).flatten (List.replicate k xs).flatten
  | 0 => by simp [repL_nil]
  | k + 1 => by simp only [List.replicate_succ, List.flatten_cons]; exact h.append (RepL.rep h k)
theorem repL_ints : ∀ {ns : List Int} {xs : List V}, RepL K G H (ns.map D.int) xs → xs = ns.map V.int
  | [], _, h => by simpa [RepL] using h
  | n :: ns, _, h => by
    simp only [List.map_cons] at h
    unfold RepL at h
    obtain ⟨x, t, rfl, h1, h2⟩ := h
    unfold RepV at h1
    rw [h1, repL_ints h2]; rfl
theorem repL_of_ints : ∀ {ns : List Int}, RepL K G H (ns.map D.int) (ns.map V.int)
  | [] => repL_nil
  | n :: ns => repL_cons (by unfold RepV; rfl) repL_of_ints
theorem GOk.new (g : GOk K G H) {p : Addr} {o : HO} (h : H p = none) : GOk K G (upd H p o) := fun a u e => by
  have x := g a u e
  have ex : Ext G H G (upd H p o) := Ext.new h
  have n : a ≠ p := by obtain ⟨w, ew⟩ := x.there; exact ne_of_none ew h
  cases u with
  | lst ds => obtain ⟨xs, e1, r⟩ := x; exact ⟨xs, by rw [upd_ne n]; exact e1, r.ext ex⟩
  | dct kvs => obtain ⟨xs, e1, e2, r⟩ := x; exact ⟨xs, by rw [upd_ne n]; exact e1, e2, r.ext ex⟩
  | dtp kvs => obtain ⟨xs, e1, e2, r⟩ := x; exact ⟨xs, by rw [upd_ne n]; exact e1, e2, r.ext ex⟩
  | raw w => show upd H p o a = some w; rw [upd_ne n]; exact x
  | ins c fs => obtain ⟨dx, xs, e1, e2, r⟩ := x; exact ⟨dx, xs, by rw [upd_ne n]; exact e1, e2, r.ext ex⟩
  | tab q => exact TabD.ext ex x (upd_ne n)
  | slt c vs => exact SltD.ext ex x (upd_ne n)
theorem GOk.put (g : GOk K G H) {p : Addr} {o : HO} {u : DO} (ex : Ext G H (updG G p u) (upd H p o)) (new : DOk K (updG G p u) (upd H p o) p u) : GOk K (updG G p u) (upd H p o) := fun a w e => by
  by_cases n : a = p
  · subst n
    rw [updG_same] at e; cases e
    exact new
  · rw [updG_ne n] at e
    have x := g a w e
    cases w with
    | lst ds => obtain ⟨xs, e1, r⟩ := x; exact ⟨xs, by rw [upd_ne n]; exact e1, r.ext ex⟩
    | dct kvs => obtain ⟨xs, e1, e2, r⟩ := x; exact ⟨xs, by rw [upd_ne n]; exact e1, e2, r.ext ex⟩
    | dtp kvs => obtain ⟨xs, e1, e2, r⟩ := x; exact ⟨xs, by rw [upd_ne n]; exact e1, e2, r.ext ex⟩
    | raw w => show upd H p o a = some w; rw [upd_ne n]; exact x
    | ins c fs => obtain ⟨dx, xs, e1, e2, r⟩ := x; exact ⟨dx, xs, by rw [upd_ne n]; exact e1, e2, r.ext ex⟩
    | tab q => exact TabD.ext ex x (upd_ne n)
    | slt c vs => exact SltD.ext ex x (upd_ne n)
theorem GOk.drop (g : GOk K G H) {p : Addr} : GOk K (dropG G p) H := fun a w e => by
  by_cases n : a = p
  · subst n; rw [dropG_same] at e; cases e
  · rw [dropG_ne n] at e
    have ex : Ext G H (dropG G p) H := Ext.drop
    have x := g a w e
    cases w with
    | lst ds => obtain ⟨xs, e1, r⟩ := x; exact ⟨xs, e1, r.ext ex⟩
    | dct kvs => obtain ⟨xs, e1, e2, r⟩ := x; exact ⟨xs, e1, e2, r.ext ex⟩
    | dtp kvs => obtain ⟨xs, e1, e2, r⟩ := x; exact ⟨xs, e1, e2, r.ext ex⟩
    | raw w => exact x
    | ins c fs => obtain ⟨dx, xs, e1, e2, r⟩ := x; exact ⟨dx, xs, e1, e2, r.ext ex⟩
    | tab q => exact TabD.ext ex x rfl
    | slt c vs => exact SltD.ext ex x rfl
end
end Dl

namespace Dl
open PySem L2

abbrev DSt := List (Option D)
def sl : DSt → Nat → Option D
  | [], _ => none
  | x :: _, 0 => x
  | _ :: r, i + 1 => sl r i
theorem sl_get : ∀ {ρ : DSt} {i : Nat} {d : D}, sl ρ i = some d → ρ[i]? = some (some d)
  | [], _, _, h => by simp [sl] at h
  | _ :: _, 0, _, h => by simp [sl] at h; simp [h]
  | _ :: r, i + 1, d, h => by simp [sl] at h; simpa using sl_get h
structure DRel (K : PySem.W.Frag) (σ : St) (H : Hp) (ρ : DSt) (G : GH) : Prop where
  len : ρ.length = σ.length
  at_ : ∀ (i : Nat) (d : D), ρ[i]? = some (some d) → ∃ v, σ[i]? = some (some v) ∧ RepV K G H d v
  gok : GOk K G H
section
variable {K : PySem.W.Frag} {σ : St} {H H' : Hp} {ρ : DSt} {G G' : GH}
theorem DRel.ext (r : DRel K σ H ρ G) (e : Ext G H G' H') (g : GOk K G' H') : DRel K σ H' ρ G' :=
  ⟨r.len, fun i d h => let ⟨v, h1, h2⟩ := r.at_ i d h; ⟨v, h1, h2.ext e⟩, g⟩
theorem DRel.set (r : DRel K σ H ρ G) (i : Nat) {d : D} {v : V} (h : RepV K G H d v) : DRel K (σ.set i (some v)) H (ρ.set i (some d)) G := by
  refine ⟨by simp [r.len], fun j e hj => ?_, r.gok⟩
  by_cases q : i = j
  · subst q
    by_cases hl : i < ρ.length
    · rw [List.getElem?_set_self hl] at hj
      cases hj
      exact ⟨v, List.getElem?_set_self (by rw [← r.len]; exact hl), h⟩
    · rw [List.getElem?_eq_none (by simpa using hl)] at hj; cases hj
  · rw [List.getElem?_set_ne q] at hj
    obtain ⟨w, h1, h2⟩ := r.at_ j e hj
    exact ⟨w, by rw [List.getElem?_set_ne q]; exact h1, h2⟩
theorem DRel.sl (r : DRel K σ H ρ G) {i : Nat} {d : D} (h : Dl.sl ρ i = some d) : ∃ v, σ[i]? = some (some v) ∧ RepV K G H d v := r.at_ i d (sl_get h)
end

abbrev DK := D → GH → Prop
abbrev DTE := DSt → GH → DK → Prop
abbrev DTT := DSt → GH → (Bool → GH → Prop) → Prop
abbrev DTA := DSt → GH → (List D → GH → Prop) → Prop
structure DEnds where
  nx : DSt → GH → Prop
  rt : DK
  bk : DSt → GH → Prop := fun _ _ => False
  ct : DSt → GH → Prop := fun _ _ => False
abbrev DTS := DEnds → DSt → GH → Prop
abbrev DTG := D → DSt → GH → (DSt → GH → Prop) → Prop
abbrev DTGs := List D → DSt → GH → (DSt → GH → Prop) → Prop

def up (K : PySem.W.Frag) (t : DTE) : TE := fun σ H Qv => ∃ ρ G Q, DRel K σ H ρ G ∧ t ρ G Q ∧ ∀ v d H' G', Ext G H G' H' → DRel K σ H' ρ G' → RepV K G' H' d v → Q d G' → Qv v H'
def upT (K : PySem.W.Frag) (t : DTT) : TT := fun σ H Qv => ∃ ρ G Q, DRel K σ H ρ G ∧ t ρ G Q ∧ ∀ b H' G', Ext G H G' H' → DRel K σ H' ρ G' → Q b G' → Qv b H'
def upA (K : PySem.W.Frag) (t : DTA) : TA := fun σ H Qv => ∃ ρ G Q, DRel K σ H ρ G ∧ t ρ G Q ∧ ∀ vs ds H' G', Ext G H G' H' → DRel K σ H' ρ G' → RepL K G' H' ds vs → Q ds G' → Qv vs H'
def upS (K : PySem.W.Frag) (t : DTS) : TS := fun Dv σ H => ∃ (ρ : DSt) (G : GH) (E : DEnds), DRel K σ H ρ G ∧ t E ρ G ∧
  (∀ σ' ρ' H' G', Ext G H G' H' → DRel K σ' H' ρ' G' → E.nx ρ' G' → Dv.nx σ' H') ∧
  (∀ v d H' G', Ext G H G' H' → GOk K G' H' → RepV K G' H' d v → E.rt d G' → Dv.rt v H') ∧
  (∀ σ' ρ' H' G', Ext G H G' H' → DRel K σ' H' ρ' G' → E.bk ρ' G' → Dv.bk σ' H') ∧
  (∀ σ' ρ' H' G', Ext G H G' H' → DRel K σ' H' ρ' G' → E.ct ρ' G' → Dv.ct σ' H')
def upG (K : PySem.W.Frag) (g : DTG) : TG := fun v σ H Qv => ∃ ρ G d Q, DRel K σ H ρ G ∧ RepV K G H d v ∧ g d ρ G Q ∧ ∀ σ' ρ' H' G', Ext G H G' H' → DRel K σ' H' ρ' G' → Q ρ' G' → Qv σ' H'
def upGs (K : PySem.W.Frag) (g : DTGs) : TGs := fun vs σ H Qv => ∃ ρ G ds Q, DRel K σ H ρ G ∧ RepL K G H ds vs ∧ g ds ρ G Q ∧ ∀ σ' ρ' H' G', Ext G H G' H' → DRel K σ' H' ρ' G' → Q ρ' G' → Qv σ' H'

abbrev DE (X : Cx) (e : Expr) (t : DTE) : Prop := PE X e (up X.K t)
abbrev DT (X : Cx) (e : Expr) (t : DTT) : Prop := PT X e (upT X.K t)
abbrev DA (X : Cx) (es : List Expr) (t : DTA) : Prop := PA X es (upA X.K t)
abbrev DS (X : Cx) (st : Stmt) (t : DTS) : Prop := PS X st (upS X.K t)
abbrev DSs (X : Cx) (sts : List Stmt) (t : DTS) : Prop := PSs X sts (upS X.K t)
abbrev DG (X : Cx) (e : Expr) (t : DTG) : Prop := PG X e (upG X.K t)
abbrev DGs (X : Cx) (es : List Expr) (t : DTGs) : Prop := PGs X es (upGs X.K t)

section
variable {X : Cx}
theorem _root_.L2.PE.imp {e : Expr} {t t' : TE} (h : PE X e t) (i : ∀ σ H Q, t' σ H Q → t σ H Q) : PE X e t' := ⟨fun pins s σ H Q I q => h.run pins s σ H Q I (i σ H Q q)⟩
theorem _root_.L2.PT.imp {e : Expr} {t t' : TT} (h : PT X e t) (i : ∀ σ H Q, t' σ H Q → t σ H Q) : PT X e t' := ⟨fun pins s σ H Q I q => h.run pins s σ H Q I (i σ H Q q)⟩
theorem _root_.L2.PW.imp {e : Expr} {t t' : TT} (h : PW X e t) (i : ∀ σ H Q, t' σ H Q → t σ H Q) : PW X e t' := ⟨fun wh pins s σ H Q I q => h.run wh pins s σ H Q I (i σ H Q q)⟩
theorem _root_.L2.PA.imp {es : List Expr} {t t' : TA} (h : PA X es t) (i : ∀ σ H Q, t' σ H Q → t σ H Q) : PA X es t' := ⟨fun pos pins s σ H Q I q => h.run pos pins s σ H Q I (i σ H Q q)⟩
theorem _root_.L2.PS.imp {st : Stmt} {t t' : TS} (h : PS X st t) (i : ∀ D σ H, t' D σ H → t D σ H) : PS X st t' := ⟨fun pins s σ H D I q => h.run pins s σ H D I (i D σ H q)⟩
theorem _root_.L2.PSs.imp {st : List Stmt} {t t' : TS} (h : PSs X st t) (i : ∀ D σ H, t' D σ H → t D σ H) : PSs X st t' := ⟨fun pins s σ H D I q => h.run pins s σ H D I (i D σ H q)⟩
theorem _root_.L2.PG.imp {e : Expr} {t t' : TG} (h : PG X e t) (i : ∀ v σ H Q, t' v σ H Q → t v σ H Q) : PG X e t' := ⟨fun pins s σ H v u Q I r q => h.run pins s σ H v u Q I r (i v σ H Q q)⟩
theorem _root_.L2.PGs.imp {es : List Expr} {t t' : TGs} (h : PGs X es t) (i : ∀ v σ H Q, t' v σ H Q → t v σ H Q) : PGs X es t' := ⟨fun pins s σ H v u Q I r q => h.run pins s σ H v u Q I r (i v σ H Q q)⟩

@[simp] def dVar (i : Nat) : DTE := fun ρ G Q => match sl ρ i with
  | some d => Q d G
  | none => False
@[simp] def dC (d : D) : DTE := fun _ G Q => Q d G
theorem dVar_of {ρ : DSt} {G : GH} {Q : DK} {i : Nat} (h : dVar i ρ G Q) : ∃ d, sl ρ i = some d ∧ Q d G := by
  unfold dVar at h
  split at h
  · exact ⟨_, by assumption, h⟩
  · exact h.elim
theorem de_var {i : Nat} {x : Str} {pos : Pos} (hN : X.N[i]? = some x) (hv : Vis X.env.scope x) (hd : (x == ("__debug__" : Str)) = false := by decide) (hcd : (x == ("__classdict__" : Str)) = false := by decide) : DE X (.Name x pos) (dVar i) := by
  refine (pe_var hN hv hd hcd).imp fun σ H Q ⟨ρ, G, q, r, h, k⟩ => ?_
  obtain ⟨d, e, h⟩ := dVar_of h
  obtain ⟨v, e1, e2⟩ := r.sl e
  exact ⟨v, e1, k v d H G (Ext.refl G H) r e2 h⟩
theorem dv (i : Nat) {x : Str} {pos : Pos} (hN : X.N[i]? = some x := by rfl) (hv : Vis X.env.scope x := by first | exact Or.inl rfl | exact Or.inr (Or.inl rfl) | exact Or.inr (Or.inr rfl)) (hd : (x == ("__debug__" : Str)) = false := by decide)
    (hcd : (x == ("__classdict__" : Str)) = false := by decide) : DE X (.Name x pos) (dVar i) := de_var hN hv hd hcd
theorem de_c {e : Expr} {v : V} {d : D} (h : PE X e (tC v)) (r : ∀ G H, RepV X.K G H d v) : DE X e (dC d) :=
  h.imp fun σ H Q ⟨ρ, G, q, rel, h, k⟩ => k v d H G (Ext.refl G H) rel (r G H) h
theorem de_int {i j pos} : DE X (.Constant (.int i) j pos) (dC (.int i)) := de_c pe_int fun _ _ => by unfold RepV; rfl
theorem de_bl {b j pos} : DE X (.Constant (.bool b) j pos) (dC (.bl b)) := de_c pe_bl fun _ _ => by unfold RepV; rfl
theorem de_non {j pos} : DE X (.Constant .none j pos) (dC .non) := de_c pe_non fun _ _ => by unfold RepV; rfl
theorem de_str {x j pos} : DE X (.Constant (.str x) j pos) (dC (.str x)) := de_c pe_str fun _ _ => by unfold RepV; rfl
def GlD (X : Cx) (x : Str) (d : D) : Prop := ∃ u, X.mg x = some u ∧ ∃ v, RelV v u ∧ ∀ G H, RepV X.K G H d v
theorem de_glob {x : Str} {d : D} {pos : Pos} (hg : Gl X x) (hm : GlD X x d) (hd : (x == ("__debug__" : Str)) = false := by decide) : DE X (.Name x pos) (dC d) := by
  obtain ⟨u, h1, v, h2, h3⟩ := hm
  exact de_c (pe_glob hg h1 h2 hd) h3

@[simp] def dNil : DTA := fun _ G Q => Q [] G
@[simp] def dCons (ta : DTE) (tr : DTA) : DTA := fun ρ G Q => ta ρ G fun x G1 => tr ρ G1 fun xs G2 => Q (x :: xs) G2
theorem da_nil : DA X [] dNil := (pa_nil (X := X)).imp fun σ H Q ⟨ρ, G, q, r, h, k⟩ => k [] [] H G (Ext.refl G H) r repL_nil h
theorem da_cons {e : Expr} {es : List Expr} {te : DTE} {t : DTA} (ha : DE X e te) (hr : DA X es t) (hs : starEach (e :: es) X.env = (false, eval e X.env) :: starEach es X.env := by rfl) : DA X (e :: es) (dCons te t) := by
  refine (pa_cons ha hr hs).imp fun σ H Q ⟨ρ, G, q, r, h, k⟩ => ?_
  refine ⟨ρ, G, _, r, h, fun v d H1 G1 e1 r1 v1 h1 => ?_⟩
  refine ⟨ρ, G1, _, r1, h1, fun vs ds H2 G2 e2 r2 v2 h2 => ?_⟩
  exact k (v :: vs) (d :: ds) H2 G2 (e1.trans e2) r2 (repL_cons (v1.ext e2) v2) h2
@[simp] def dTup (t : DTA) : DTE := fun ρ G Q => t ρ G fun xs G1 => xs.length ≤ sizeLine ∧ Q (.tup xs) G1
@[simp] def dLst (t : DTA) : DTE := fun ρ G Q => t ρ G fun xs G1 => xs.length ≤ sizeLine ∧ ∀ p, G1 p = none → Q (.ref p) (updG G1 p (.lst xs))
theorem DRel.newTup {K : PySem.W.Frag} {σ : St} {H : Hp} {ρ : DSt} {G : GH} {p : Addr} {ds : List D} {vs : List V} (r : DRel K σ H ρ G) (hp : H p = none) (hv : RepL K G H ds vs) :
    Ext G H G (upd H p (.tup vs)) ∧ DRel K σ (upd H p (.tup vs)) ρ G ∧ RepV K G (upd H p (.tup vs)) (.tup ds) (.ref p) := by
  have e : Ext G H G (upd H p (.tup vs)) := Ext.new hp
  refine ⟨e, r.ext e (r.gok.new hp), ?_⟩
  unfold RepV
  exact ⟨p, vs, rfl, .inl ⟨r.gok.fresh hp, upd_same⟩, hv.ext e⟩
theorem DRel.newLst {K : PySem.W.Frag} {σ : St} {H : Hp} {ρ : DSt} {G : GH} {p : Addr} {ds : List D} {vs : List V} (r : DRel K σ H ρ G) (hp : H p = none) (hv : RepL K G H ds vs) :
    Ext G H (updG G p (.lst ds)) (upd H p (.lst vs)) ∧ DRel K σ (upd H p (.lst vs)) ρ (updG G p (.lst ds)) ∧ RepV K (updG G p (.lst ds)) (upd H p (.lst vs)) (.ref p) (.ref p) := by
  have e : Ext G H (updG G p (.lst ds)) (upd H p (.lst vs)) := Ext.newG hp
  refine ⟨e, r.ext e (r.gok.put e ⟨vs, upd_same, hv.ext e⟩), by unfold RepV; rfl⟩
theorem de_tup {es : List Expr} {t : DTA} {x1} {pos : Pos} (h : DA X es t) : DE X (.Tuple es x1 pos) (dTup t) := by
  refine (pe_tup h).imp fun σ H Q ⟨ρ, G, q, r, h, k⟩ => ?_
  refine ⟨ρ, G, _, r, h, fun vs ds H1 G1 e1 r1 v1 ⟨z, h1⟩ => ⟨by rw [v1.length]; exact z, fun p hp => ?_⟩⟩
  obtain ⟨e2, r2, v2⟩ := r1.newTup hp v1
  exact k _ _ _ _ (e1.trans e2) r2 v2 h1
theorem de_lst {es : List Expr} {t : DTA} {pos : Pos} (h : DA X es t) : DE X (.List es pos) (dLst t) := by
  refine (pe_lst h).imp fun σ H Q ⟨ρ, G, q, r, h, k⟩ => ?_
  refine ⟨ρ, G, _, r, h, fun vs ds H1 G1 e1 r1 v1 ⟨z, h1⟩ => ⟨by rw [v1.length]; exact z, fun p hp => ?_⟩⟩
  obtain ⟨e2, r2, v2⟩ := r1.newLst hp v1
  exact k _ _ _ _ (e1.trans e2) r2 v2 (h1 p (r1.gok.fresh hp))
@[simp] def dFrz (t : DTE) : DTE := fun ρ G Q => t ρ G fun d G1 => match d with
  | .ref p => (match G1 p with
    | some (.lst ds) => Q (.lst ds) (dropG G1 p)
    | _ => Q (.ref p) G1)
  | d => Q d G1
theorem de_frz {e : Expr} {t : DTE} (h : DE X e t) : DE X e (dFrz t) := by
  refine PE.imp h fun σ H Q ⟨ρ, G, q, r, h, k⟩ => ?_
  refine ⟨ρ, G, _, r, h, fun v d H1 G1 e1 r1 v1 h1 => ?_⟩
  cases d with
  | ref p =>
    dsimp only at h1
    cases q : G1 p with
    | none => rw [q] at h1; exact k _ _ _ _ e1 r1 v1 h1
    | some o =>
      rw [q] at h1
      cases o with
      | lst ds =>
        dsimp only at h1
        obtain ⟨xs, hx, rx⟩ := r1.gok p _ q
        have e2 : Ext G1 H1 (dropG G1 p) H1 := Ext.drop
        refine k v (.lst ds) H1 (dropG G1 p) (e1.trans e2) (r1.ext e2 r1.gok.drop) ?_ h1
        unfold RepV at v1 ⊢
        exact ⟨p, xs, v1, ⟨dropG_same, hx⟩, rx.ext e2⟩
      | dct kvs => exact k _ _ _ _ e1 r1 v1 h1
      | raw o => exact k _ _ _ _ e1 r1 v1 h1
      | ins _ _ => exact k _ _ _ _ e1 r1 v1 h1
      | dtp _ => exact k _ _ _ _ e1 r1 v1 h1
      | tab _ => exact k _ _ _ _ e1 r1 v1 h1
      | slt _ _ => exact k _ _ _ _ e1 r1 v1 h1
  | _ => exact k _ _ _ _ e1 r1 v1 h1

abbrev DR2 := D → D → GH → DK → Prop
def upR (K : PySem.W.Frag) (r : DR2) : R2 := fun x y H Qv => ∃ (G : GH) (dx dy : D) (Q : DK), GOk K G H ∧ RepV K G H dx x ∧ RepV K G H dy y ∧ r dx dy G Q ∧ ∀ v d H' G', Ext G H G' H' → GOk K G' H' → RepV K G' H' d v → Q d G' → Qv v H'
abbrev DOp (X : Cx) (f : Value → Value → Sem Value) (r : DR2) : Prop := OpR X f (upR X.K r)
@[simp] def dOp (r : DR2) (ta tb : DTE) : DTE := fun ρ G Q => ta ρ G fun x G1 => tb ρ G1 fun y G2 => r x y G2 Q
theorem up_op {K : PySem.W.Frag} {r : DR2} {ta tb : DTE} {σ : St} {H : Hp} {Q : VK} (h : up K (dOp r ta tb) σ H Q) : tOp (upR K r) (up K ta) (up K tb) σ H Q := by
  obtain ⟨ρ, G, q, r0, h, k⟩ := h
  refine ⟨ρ, G, _, r0, h, fun x dx H1 G1 e1 r1 v1 h1 => ?_⟩
  refine ⟨ρ, G1, _, r1, h1, fun y dy H2 G2 e2 r2 v2 h2 => ?_⟩
  exact ⟨G2, dx, dy, q, r2.gok, v1.ext e2, v2, h2, fun v d H' G' e3 g3 v3 h3 => k v d H' G' ((e1.trans e2).trans e3) (r2.ext e3 g3) v3 h3⟩
theorem de_op {op : Operator} {r : DR2} {a b : Expr} {ta tb : DTE} {pos : Pos} (ho : DOp X (binaryOp op) r) (ha : DE X a ta) (hb : DE X b tb) : DE X (.BinOp a op b pos) (dOp r ta tb) :=
  (pe_op ho ha hb).imp fun _ _ _ h => up_op h
theorem de_cmp {op : CmpOp} {r : DR2} {a b : Expr} {ta tb : DTE} {pos : Pos} (ho : DOp X (compareOp op) r) (ha : DE X a ta) (hb : DE X b tb) (hm : behindInMarks op b = false) : DE X (.Compare a [op] [b] pos) (dOp r ta tb) :=
  (pe_cmpR ho ha hb hm).imp fun _ _ _ h => up_op h
@[simp] def dTst (t : DTE) : DTT := fun ρ G Q => t ρ G fun d G1 => match d with
  | .bl b => Q b G1
  | _ => False
theorem up_tst {K : PySem.W.Frag} {t : DTE} {σ : St} {H : Hp} {Q : Bool → Hp → Prop} (h : upT K (dTst t) σ H Q) : up K t σ H fun x H1 => ∃ k, x = .bl k ∧ Q k H1 := by
  obtain ⟨ρ, G, q, r0, h, k⟩ := h
  refine ⟨ρ, G, _, r0, h, fun x dx H1 G1 e1 r1 v1 h1 => ?_⟩
  cases dx with
  | bl b => unfold RepV at v1; exact ⟨b, v1, k b H1 G1 e1 r1 h1⟩
  | _ => exact h1.elim
theorem dt_cmp {op : CmpOp} {r : DR2} {a b : Expr} {ta tb : DTE} {pos : Pos} (ho : DOp X (compareOp op) r) (ha : DE X a ta) (hb : DE X b tb) (hm : behindInMarks op b = false) : DT X (.Compare a [op] [b] pos) (dTst (dOp r ta tb)) := by
  refine (pt_cmpR ho ha hb hm).imp fun σ H Q h => ?_
  exact up_op (up_tst h)
end
end Dl

namespace Dl
open PySem L2
section
variable {X : Cx}

@[simp] def dAnd (t u : DTT) : DTT := fun ρ G Q => t ρ G fun c G1 => if c = true then u ρ G1 Q else Q false G1
@[simp] def dOr (t u : DTT) : DTT := fun ρ G Q => t ρ G fun c G1 => if c = true then Q true G1 else u ρ G1 Q
@[simp] def dNot (t : DTT) : DTT := fun ρ G Q => t ρ G fun c G1 => Q (!c) G1
theorem up_and {K : PySem.W.Frag} {t u : DTT} {σ : St} {H : Hp} {Q : Bool → Hp → Prop} (h : upT K (dAnd t u) σ H Q) : tAnd (upT K t) (upT K u) σ H Q := by
  obtain ⟨ρ, G, q, r, h, k⟩ := h
  refine ⟨ρ, G, _, r, h, fun b H1 G1 e1 r1 h1 => ?_⟩
  cases b with
  | true => exact ⟨ρ, G1, q, r1, h1, fun b H' G' e r h => k b H' G' (e1.trans e) r h⟩
  | false => exact k false H1 G1 e1 r1 h1
theorem up_or {K : PySem.W.Frag} {t u : DTT} {σ : St} {H : Hp} {Q : Bool → Hp → Prop} (h : upT K (dOr t u) σ H Q) : tOr (upT K t) (upT K u) σ H Q := by
  obtain ⟨ρ, G, q, r, h, k⟩ := h
  refine ⟨ρ, G, _, r, h, fun b H1 G1 e1 r1 h1 => ?_⟩
  cases b with
  | false => exact ⟨ρ, G1, q, r1, h1, fun b H' G' e r h => k b H' G' (e1.trans e) r h⟩
  | true => exact k true H1 G1 e1 r1 h1
abbrev DW (X : Cx) (e : Expr) (t : DTT) : Prop := PW X e (upT X.K t)
theorem dw_and1 {a : Expr} {t : DTT} {pos : Pos} (h : DT X a t) : DW X (.BoolOp .And [a] pos) t := pw_and1 h
theorem dw_or1 {a : Expr} {t : DTT} {pos : Pos} (h : DT X a t) : DW X (.BoolOp .Or [a] pos) t := pw_or1 h
theorem dw_and {a b : Expr} {rest : List Expr} {t u : DTT} {pos : Pos} (h : DT X a t) (hb : DW X (.BoolOp .And (b :: rest) pos) u) : DW X (.BoolOp .And (a :: b :: rest) pos) (dAnd t u) := (pw_and h hb).imp fun _ _ _ h => up_and h
theorem dw_or {a b : Expr} {rest : List Expr} {t u : DTT} {pos : Pos} (h : DT X a t) (hb : DW X (.BoolOp .Or (b :: rest) pos) u) : DW X (.BoolOp .Or (a :: b :: rest) pos) (dOr t u) := (pw_or h hb).imp fun _ _ _ h => up_or h
theorem dt_w {e : Expr} {t : DTT} (h : DW X e t) : DT X e t := h.pt
theorem dt_not {a : Expr} {t : DTT} {pos : Pos} (h : DT X a t) : DT X (.UnaryOp .Not a pos) (dNot t) := by
  refine PT.imp (pt_not h) fun σ H Q ⟨ρ, G, q, r, h, k⟩ => ?_
  exact ⟨ρ, G, _, r, h, fun b H1 G1 e1 r1 h1 => k (!b) H1 G1 e1 r1 h1⟩
@[simp] def dAndV (ta tb : DTE) : DTE := fun ρ G Q => ta ρ G fun x G1 => match x with
  | .bl true => tb ρ G1 Q
  | .bl false => Q (.bl false) G1
  | _ => False
theorem de_one {op : BoolOp} {a : Expr} {t : DTE} {pos : Pos} (h : DE X a t) : DE X (.BoolOp op [a] pos) t := pe_one h
theorem de_and {a b : Expr} {rest : List Expr} {ta tb : DTE} {pos : Pos} (h : DE X a ta) (hb : DE X (.BoolOp .And (b :: rest) pos) tb) : DE X (.BoolOp .And (a :: b :: rest) pos) (dAndV ta tb) := by
  refine (pe_and h hb).imp fun σ H Q ⟨ρ, G, q, r, h, k⟩ => ?_
  refine ⟨ρ, G, _, r, h, fun v d H1 G1 e1 r1 v1 h1 => ?_⟩
  cases d with
  | bl c =>
    unfold RepV at v1
    refine ⟨c, v1, ?_⟩
    cases c with
    | true => exact ⟨ρ, G1, q, r1, h1, fun v d H' G' e r v' h => k v d H' G' (e1.trans e) r v' h⟩
    | false => exact k _ (.bl false) H1 G1 e1 r1 (by unfold RepV; rfl) h1
  | _ => exact h1.elim
@[simp] def dNotV (ta : DTE) : DTE := fun ρ G Q => ta ρ G fun x G1 => match x with
  | .bl c => Q (.bl (!c)) G1
  | _ => False
theorem de_not {a : Expr} {ta : DTE} {pos : Pos} (h : DE X a ta) : DE X (.UnaryOp .Not a pos) (dNotV ta) := by
  refine PE.imp (pe_not h) fun σ H Q ⟨ρ, G, q, r, h, k⟩ => ?_
  refine ⟨ρ, G, _, r, h, fun v d H1 G1 e1 r1 v1 h1 => ?_⟩
  cases d with
  | bl c =>
    unfold RepV at v1
    exact ⟨c, v1, k _ (.bl (!c)) H1 G1 e1 r1 (by unfold RepV; rfl) h1⟩
  | _ => exact h1.elim
@[simp] def dIf (c : DTT) (ta tb : DTE) : DTE := fun ρ G Q => c ρ G fun b G1 => if b = true then ta ρ G1 Q else tb ρ G1 Q
theorem de_if {c a b : Expr} {tc : DTT} {ta tb : DTE} {pos : Pos} (hc : DT X c tc) (ha : DE X a ta) (hb : DE X b tb) : DE X (.IfExp c a b pos) (dIf tc ta tb) := by
  refine (pe_ifExp hc ha hb).imp fun σ H Q ⟨ρ, G, q, r, h, k⟩ => ?_
  refine ⟨ρ, G, _, r, h, fun b H1 G1 e1 r1 h1 => ?_⟩
  cases b with
  | true => exact ⟨ρ, G1, q, r1, h1, fun v d H' G' e r v' h => k v d H' G' (e1.trans e) r v' h⟩
  | false => exact ⟨ρ, G1, q, r1, h1, fun v d H' G' e r v' h => k v d H' G' (e1.trans e) r v' h⟩

@[simp] def dNext : DTS := fun E ρ G => E.nx ρ G
@[simp] def dSeq (t u : DTS) : DTS := fun E ρ G => t { E with nx := u E } ρ G
theorem ds_nil : DSs X [] dNext := (pss_nil (X := X)).imp fun D σ H ⟨ρ, G, E, r, h, k1, _⟩ => k1 σ ρ H G (Ext.refl G H) r h
theorem ds_one {st : Stmt} {t : DTS} (h : DS X st t) : DSs X [st] t := pss_one h
theorem ds_cons {st : Stmt} {rest : List Stmt} {t u : DTS} (h : DS X st t) (h2 : DSs X rest u) : DSs X (st :: rest) (dSeq t u) := by
  refine (pss_cons h h2).imp fun D σ H ⟨ρ, G, E, r, h, k1, k2, k3, k4⟩ => ?_
  refine ⟨ρ, G, { E with nx := u E }, r, h, fun σ' ρ' H' G' e r' h' => ?_, k2, k3, k4⟩
  exact ⟨ρ', G', E, r', h', fun a b c d e' => k1 a b c d (e.trans e'), fun a b c d e' => k2 a b c d (e.trans e'), fun a b c d e' => k3 a b c d (e.trans e'), fun a b c d e' => k4 a b c d (e.trans e')⟩
@[simp] def dDrop (te : DTE) : DTS := fun E ρ G => te ρ G fun _ G1 => E.nx ρ G1
theorem ds_expr {e : Expr} {te : DTE} {pos : Pos} (he : DE X e te) (hs : swapsWith e none pos.line X.env = pure false := by rfl) : DS X (.Expr e pos) (dDrop te) := by
  refine (ps_expr he hs).imp fun D σ H ⟨ρ, G, E, r, h, k1, _⟩ => ?_
  exact ⟨ρ, G, _, r, h, fun v d H' G' e r' v' h' => k1 σ ρ H' G' e r' h'⟩
@[simp] def dRet (te : DTE) : DTS := fun E ρ G => te ρ G E.rt
theorem ds_ret {e : Expr} {te : DTE} {pos : Pos} (he : DE X e te) : DS X (.Return (some e) pos) (dRet te) := by
  refine (ps_ret he).imp fun D σ H ⟨ρ, G, E, r, h, _, k2, _⟩ => ?_
  exact ⟨ρ, G, _, r, h, fun v d H' G' e r' v' h' => k2 v d H' G' e r'.gok v' h'⟩
@[simp] def dIfS (c : DTT) (t u : DTS) : DTS := fun E ρ G => c ρ G fun b G1 => if b = true then t E ρ G1 else u E ρ G1
theorem upS_ext {K : PySem.W.Frag} {t : DTS} {Dv : Ends} {σ : St} {H H1 : Hp} {ρ : DSt} {G G1 : GH} {E : DEnds} (e : Ext G H G1 H1) (r1 : DRel K σ H1 ρ G1) (h : t E ρ G1)
    (k1 : ∀ σ' ρ' H' G', Ext G H G' H' → DRel K σ' H' ρ' G' → E.nx ρ' G' → Dv.nx σ' H')
    (k2 : ∀ v d H' G', Ext G H G' H' → GOk K G' H' → RepV K G' H' d v → E.rt d G' → Dv.rt v H')
    (k3 : ∀ σ' ρ' H' G', Ext G H G' H' → DRel K σ' H' ρ' G' → E.bk ρ' G' → Dv.bk σ' H')
    (k4 : ∀ σ' ρ' H' G', Ext G H G' H' → DRel K σ' H' ρ' G' → E.ct ρ' G' → Dv.ct σ' H') : upS K t Dv σ H1 :=
  ⟨ρ, G1, E, r1, h, fun a b c d e' => k1 a b c d (e.trans e'), fun a b c d e' => k2 a b c d (e.trans e'), fun a b c d e' => k3 a b c d (e.trans e'), fun a b c d e' => k4 a b c d (e.trans e')⟩
theorem ds_if {c : Expr} {a b : List Stmt} {tc : DTT} {t u : DTS} {pos : Pos} (hc : DT X c tc) (ha : DSs X a t) (hb : DSs X b u) : DS X (.If c a b pos) (dIfS tc t u) := by
  refine (ps_if hc ha hb).imp fun D σ H ⟨ρ, G, E, r, h, k1, k2, k3, k4⟩ => ?_
  refine ⟨ρ, G, _, r, h, fun b H1 G1 e1 r1 h1 => ?_⟩
  cases b with
  | true => exact upS_ext e1 r1 h1 k1 k2 k3 k4
  | false => exact upS_ext e1 r1 h1 k1 k2 k3 k4
@[simp] def gNm (i : Nat) : DTG := fun d ρ G Q => Q (ρ.set i (some d)) G
theorem dg_name {i : Nat} {x : Str} {pos : Pos} (hN : X.N.Nodup) (hi : X.N[i]? = some x) (hx : Loc X.env.scope x) (hf : X.fn x = true ∨ X.env.scope.names.lookup x = some .local := by first | exact .inl rfl | exact .inr rfl | assumption) : DG X (.Name x pos) (gNm i) :=
  (pg_name hN hi hx hf).imp fun v σ H Q ⟨ρ, G, d, q, r, rv, h, k⟩ => k _ _ H G (Ext.refl G H) (r.set i rv) h
@[simp] def gsNil : DTGs := fun ds ρ G Q => match ds with
  | [] => Q ρ G
  | _ => False
@[simp] def gsCons (t : DTG) (u : DTGs) : DTGs := fun ds ρ G Q => match ds with
  | d :: r => t d ρ G fun ρ' G' => u r ρ' G' Q
  | [] => False
theorem dgs_nil : DGs X [] gsNil := (pgs_nil (X := X)).imp fun v σ H Q ⟨ρ, G, ds, q, r, rv, h, k⟩ => by
  cases ds with
  | nil => unfold RepL at rv; exact ⟨rv, k σ ρ H G (Ext.refl G H) r h⟩
  | cons d ds => exact h.elim
theorem dgs_cons {e : Expr} {es : List Expr} {t : DTG} {u : DTGs} (h1 : DG X e t) (h2 : DGs X es u)
    (hs : (assignEach (e :: es) X.env).map (·.2) = assign e X.env :: (assignEach es X.env).map (·.2) := by rfl) : DGs X (e :: es) (gsCons t u) :=
  (pgs_cons h1 h2 hs).imp fun v σ H Q ⟨ρ, G, ds, q, r, rv, h, k⟩ => by
    cases ds with
    | nil => exact h.elim
    | cons d ds =>
      unfold RepL at rv
      obtain ⟨x, xs, rfl, hx, hxs⟩ := rv
      refine ⟨x, xs, rfl, ρ, G, d, _, r, hx, h, fun σ' ρ' H' G' e r' h' => ?_⟩
      exact ⟨ρ', G', ds, q, r', hxs.ext e, h', fun a b c d e' => k a b c d (e.trans e')⟩
@[simp] def gTp (n : Nat) (t : DTGs) : DTG := fun d ρ G Q => match d with
  | .tup xs => xs.length = n ∧ t xs ρ G Q
  | _ => False
theorem dg_tup {es : List Expr} {k : Nat} {t : DTGs} {n : Nat} {pos : Pos} (hc : X.calm = true) (h : DGs X es t)
    (hn : (assignEach es X.env).length = n := by rfl) (hst : (assignEach es X.env).findIdx? (·.1) = none := by rfl) : DG X (.Tuple es k pos) (gTp n t) :=
  (pg_tup hc h hn hst).imp fun v σ H Q ⟨ρ, G, d, q, r, rv, h, k⟩ => by
    cases d with
    | tup ds =>
      unfold RepV at rv
      obtain ⟨a, xs, rfl, ta, rl⟩ := rv
      exact ⟨a, xs, rfl, ta.sq, by rw [rl.length]; exact h.1, ρ, G, ds, q, r, rl, h.2, k⟩
    | _ => exact h.elim
abbrev DSet := D → D → D → GH → (GH → Prop) → Prop
def upSet (K : PySem.W.Frag) (t : DSet) : TSet := fun o i v H Qv => ∃ (G : GH) (dO di d : D) (Q : GH → Prop), GOk K G H ∧ RepV K G H dO o ∧ RepV K G H di i ∧ RepV K G H d v ∧ t dO di d G Q ∧ ∀ H' G', Ext G H G' H' → GOk K G' H' → Q G' → Qv H'
@[simp] def gSb (to ti : DTE) (t : DSet) : DTG := fun d ρ G Q => to ρ G fun o G1 => ti ρ G1 fun i G2 => t o i d G2 fun G3 => Q ρ G3
theorem dg_sub {o i : Expr} {to ti : DTE} {t : DSet} {pos : Pos} (ho : DE X o to) (hi : DE X i ti) (hs : PSet X (upSet X.K t))
    (ha : ∀ v, assign (.Subscript o i pos) X.env v = (do
      let ov ← holding [v] (eval o X.env)
      let iv ← holding [v, ov] (eval i X.env)
      standAt pos
      holding [v, ov, iv] (setItem ov iv v)
      release [v, ov, iv] []) := by intro _; rfl) : DG X (.Subscript o i pos) (gSb to ti t) :=
  (pg_sub ho hi hs ha).imp fun v σ H Q ⟨ρ, G, d, q, r, rv, h, k⟩ => by
    refine ⟨ρ, G, _, r, h, fun ov od H1 G1 e1 r1 v1 h1 => ?_⟩
    refine ⟨ρ, G1, _, r1, h1, fun iv idd H2 G2 e2 r2 v2 h2 => ?_⟩
    refine ⟨G2, od, idd, d, _, r2.gok, v1.ext e2, v2, rv.ext (e1.trans e2), h2, fun H' G' e3 g3 h3 => ?_⟩
    exact k σ ρ H' G' ((e1.trans e2).trans e3) (r2.ext e3 g3) h3
@[simp] def dAsg (te : DTE) (g : DTG) : DTS := fun E ρ G => te ρ G fun x G1 => g x ρ G1 E.nx
theorem up_asg {K : PySem.W.Frag} {te : DTE} {g : DTG} {D : Ends} {σ : St} {H : Hp} (h : upS K (dAsg te g) D σ H) : tAsg (up K te) (upG K g) D σ H := by
  obtain ⟨ρ, G, E, r, h, k1, k2, k3, k4⟩ := h
  refine ⟨ρ, G, _, r, h, fun v d H1 G1 e1 r1 v1 h1 => ?_⟩
  exact ⟨ρ, G1, d, _, r1, v1, h1, fun a b c d e' => k1 a b c d (e1.trans e')⟩
theorem ds_asg {tg e : Expr} {te : DTE} {g : DTG} {pos : Pos} (he : DE X e te) (hg : DG X tg g) (hs : swapsWithSole [tg] e pos.line X.env = pure false := by rfl) (hw : swappedStores [tg] e X.env = pure none := by rfl)
    (h1 : (assignEach [tg] X.env).map (·.2) = [assign tg X.env] := by rfl) : DS X (.Assign [tg] e pos) (dAsg te g) := (ps_asg he hg hs hw h1).imp fun _ _ _ h => up_asg h
theorem ds_set {i : Nat} {x : Str} {e : Expr} {te : DTE} {pos pos' : Pos} (hN : X.N.Nodup) (hi : X.N[i]? = some x) (hx : Loc X.env.scope x) (he : DE X e te) (hs : swapsWith e (some (.Name x pos')) pos.line X.env = pure false := by rfl) (hf : X.fn x = true ∨ X.env.scope.names.lookup x = some .local := by first | exact .inl rfl | exact .inr rfl | assumption) :
    DS X (.Assign [.Name x pos'] e pos) (dAsg te (gNm i)) := by
  refine (ps_set hN hi hx he hs hf).imp fun D σ H ⟨ρ, G, E, r, h, k1, k2, k3, k4⟩ => ?_
  refine ⟨ρ, G, _, r, h, fun v d H1 G1 e1 r1 v1 h1 => ?_⟩
  exact k1 _ _ H1 G1 e1 (r1.set i v1) h1
@[simp] def dPar (i j : Nat) (ta : DTA) : DTS := fun E ρ G => ta ρ G fun ds G1 => match ds with
  | [v, w] => E.nx ((ρ.set i (some v)).set j (some w)) G1
  | _ => False
theorem ds_par {i j : Nat} {x y : Str} {a b : Expr} {ta : DTA} {px py pt pos : Pos} {kt k2 pt2} (hc : X.calm = true) (hN : X.N.Nodup) (hi : X.N[i]? = some x) (hj : X.N[j]? = some y) (hij : i ≠ j)
    (hx : X.env.scope.names.lookup x = some .local) (hy : X.env.scope.names.lookup y = some .local) (ha : DA X [a, b] ta)
    (hw : swappedStores [.Tuple [.Name x px, .Name y py] kt pt] (.Tuple [a, b] k2 pt2) X.env = pure (some [x, y]))
    (hs : swapsWithSole [.Tuple [.Name x px, .Name y py] kt pt] (.Tuple [a, b] k2 pt2) pos.line X.env = pure false := by rfl) :
    DS X (.Assign [.Tuple [.Name x px, .Name y py] kt pt] (.Tuple [a, b] k2 pt2) pos) (dPar i j ta) := by
  refine (ps_par hc hN hi hj hij hx hy ha hw hs).imp fun D σ H ⟨ρ, G, E, r, h, k1, k2, k3, k4⟩ => ?_
  refine ⟨ρ, G, _, r, h, fun vs ds H1 G1 e1 r1 v1 h1 => ?_⟩
  match ds, h1 with
  | [v, w], h1 =>
    unfold RepL at v1
    obtain ⟨x1, t1, rfl, y1, v1⟩ := v1
    unfold RepL at v1
    obtain ⟨x2, t2, rfl, y2, v1⟩ := v1
    unfold RepL at v1
    subst v1
    exact ⟨x1, x2, rfl, k1 _ _ H1 G1 e1 ((r1.set i y1).set j y2) h1⟩
  | [], h1 => exact h1.elim
  | [_], h1 => exact h1.elim
  | _ :: _ :: _ :: _, h1 => exact h1.elim

def dWhileGo (c : DTT) (tb : DTS) : Nat → DTS
  | 0, _, _, _ => False
  | n + 1, E, ρ, G => c ρ G fun b G1 => if b = true then tb { E with nx := dWhileGo c tb n E, ct := dWhileGo c tb n E, bk := E.nx } ρ G1 else E.nx ρ G1
def dWhile (c : DTT) (tb : DTS) : DTS := fun E ρ G => ∃ n, dWhileGo c tb n E ρ G
theorem ds_while {c : Expr} {body : List Stmt} {tc : DTT} {tb : DTS} {pos : Pos} (hp : PassesOwn (model X.prog X.w) X.A X.env X.xe) (hc : DT X c tc) (hb : DSs X body tb) : DS X (.While c body [] pos) (dWhile tc tb) := by
  refine (ps_while hp hc hb).imp fun D σ H ⟨ρ, G, E, r, ⟨n, h⟩, k1, k2, k3, k4⟩ => ?_
  refine ⟨fun m σ1 H1 => ∃ ρ1 G1, Ext G H G1 H1 ∧ DRel X.K σ1 H1 ρ1 G1 ∧ dWhileGo tc tb m E ρ1 G1, ⟨n, ρ, G, Ext.refl G H, r, h⟩, ?_⟩
  rintro m σ1 H1 ⟨ρ1, G1, e1, r1, h1⟩
  cases m with
  | zero => exact h1.elim
  | succ m =>
    unfold dWhileGo at h1
    refine ⟨ρ1, G1, _, r1, h1, fun b H2 G2 e2 r2 h2 => ?_⟩
    cases b with
    | false => exact k1 σ1 ρ1 H2 G2 (e1.trans e2) r2 h2
    | true =>
      refine ⟨fun σ3 H3 => ∃ ρ3 G3, Ext G H G3 H3 ∧ DRel X.K σ3 H3 ρ3 G3 ∧ dWhileGo tc tb m E ρ3 G3, fun σ3 H3 q => ⟨m, Nat.lt_succ_self m, q⟩, ?_⟩
      refine ⟨ρ1, G2, _, r2, h2, ?_, ?_, ?_, ?_⟩
      · exact fun σ' ρ' H' G' e' r' h' => ⟨ρ', G', (e1.trans e2).trans e', r', h'⟩
      · exact fun v d H' G' e' => k2 v d H' G' ((e1.trans e2).trans e')
      · exact fun σ' ρ' H' G' e' r' h' => k1 σ' ρ' H' G' ((e1.trans e2).trans e') r' h'
      · exact fun σ' ρ' H' G' e' r' h' => ⟨ρ', G', (e1.trans e2).trans e', r', h'⟩

def DIt (K : PySem.W.Frag) (J : It) (items : List D) (ok : GH → Prop) (G0 : GH) (H0 : Hp) : Prop :=
  ∀ G H, Ext G0 H0 G H → GOk K G H → ok G → ∀ i, (∀ d, items[i]? = some d → J.go i H ∧ ∀ x H1, J.yld i H x H1 → Ext G H G H1 ∧ GOk K G H1 ∧ RepV K G H1 d x) ∧ (i = items.length → J.stop i H)
abbrev DTI := DSt → GH → (List D → (GH → Prop) → GH → Prop) → Prop
def upI (K : PySem.W.Frag) (t : DTI) : TI := fun σ H R => ∃ ρ G Q, DRel K σ H ρ G ∧ t ρ G Q ∧ ∀ J items ok H' G', Ext G H G' H' → DRel K σ H' ρ G' → DIt K J items ok G' H' → Q items ok G' → R J H'
abbrev DI (X : Cx) (tg iter : Expr) (t : DTI) : Prop := PI X tg iter (upI X.K t)
theorem _root_.L2.PI.imp {tg iter : Expr} {t t' : TI} (h : PI X tg iter t) (i : ∀ σ H R, t' σ H R → t σ H R) : PI X tg iter t' := ⟨fun pins s σ H R I q => h.run pins s σ H R I (i σ H R q)⟩
def okAll : GH → Prop := fun _ => True
def rngD (lo : Int) (n : Nat) : List D := (List.range n).map fun i => D.int (lo + (i : Nat))
theorem dit_range {K : PySem.W.Frag} {lo : Int} {n : Nat} {G0 : GH} {H0 : Hp} : DIt K (Itr lo n) (rngD lo n) okAll G0 H0 := fun G H e g _ i => by
  refine ⟨fun d hd => ?_, fun hi => ?_⟩
  · unfold rngD at hd
    rw [List.getElem?_map] at hd
    by_cases hi : i < n
    · rw [List.getElem?_range hi] at hd
      simp at hd
      subst hd
      refine ⟨hi, fun x H1 hx => ?_⟩
      obtain ⟨rfl, rfl⟩ := hx
      exact ⟨Ext.refl _ _, g, by unfold RepV; rfl⟩
    · rw [List.getElem?_eq_none (by simpa using hi)] at hd
      simp at hd
  · unfold rngD at hi
    show n ≤ i
    simp at hi
    omega
@[simp] def iRg1 (t : DTA) : DTI := fun ρ G Q => t ρ G fun ds G1 => match ds with
  | [.int j] => -(2 ^ 62) ≤ j ∧ j < 2 ^ 62 ∧ Q (rngD 0 j.toNat) okAll G1
  | _ => False
theorem di_range1 {tg a : Expr} {t : DTA} {p pos : Pos} (hg : Gl X "range") (hm : X.mg "range" = none) (ha : DA X [a] t) (hs : starEach [a] X.env = [(false, eval a X.env)] := by rfl) : DI X tg (.Call (.Name "range" p) [a] [] pos) (iRg1 t) := by
  refine (pi_range1 hg hm ha hs).imp fun σ H R ⟨ρ, G, q, r, h, k⟩ => ?_
  refine ⟨ρ, G, _, r, h, fun vs ds H1 G1 e1 r1 v1 h1 => ?_⟩
  match ds, h1 with
  | [.int j], h1 =>
    unfold RepL at v1
    obtain ⟨x1, t1, rfl, y1, v1⟩ := v1
    unfold RepL at v1
    subst v1
    unfold RepV at y1
    subst y1
    exact ⟨j, rfl, h1.1, h1.2.1, k _ _ _ H1 G1 e1 r1 dit_range h1.2.2⟩
def dForGo (ok : GH → Prop) (g : DTG) (tb : DTS) : List D → DTS
  | [], E, ρ, G => ok G ∧ E.nx ρ G
  | x :: xs, E, ρ, G => ok G ∧ g x ρ G fun ρ2 G2 => tb { E with nx := dForGo ok g tb xs E, ct := dForGo ok g tb xs E, bk := E.nx } ρ2 G2
def dFor (wi : DTI) (g : DTG) (tb : DTS) : DTS := fun E ρ G => wi ρ G fun items ok G1 => dForGo ok g tb items E ρ G1
theorem ds_for {tg iter : Expr} {body : List Stmt} {wi : DTI} {g : DTG} {tb : DTS} {pos : Pos} (hp : PassesOwn (model X.prog X.w) X.A X.env X.xe) (hc : X.calm = true) (hi : DI X tg iter wi) (hg : DG X tg g) (hb : DSs X body tb)
    (hs : ∀ x, foldedSetIterable iter X.env x = pure x := by intro _; rfl) : DS X (.For tg iter body [] pos) (dFor wi g tb) := by
  refine (ps_for hp hc hi hg hb hs).imp fun D σ H ⟨ρ, G, E, r, h, k1, k2, k3, k4⟩ => ?_
  refine ⟨ρ, G, _, r, h, fun J items ok H1 G1 e1 r1 it h1 => ?_⟩
  refine ⟨fun i m σ2 H2 => m = items.length - i ∧ i ≤ items.length ∧ ∃ ρ2 G2, Ext G1 H1 G2 H2 ∧ DRel X.K σ2 H2 ρ2 G2 ∧ dForGo ok g tb (items.drop i) E ρ2 G2, ⟨items.length, rfl, Nat.zero_le _, ρ, G1, Ext.refl _ _, r1, h1⟩, ?_⟩
  rintro i m σ2 H2 ⟨rfl, hi, ρ2, G2, e2, r2, h2⟩
  by_cases hlt : i < items.length
  · rw [List.drop_eq_getElem_cons hlt] at h2
    unfold dForGo at h2
    obtain ⟨ho, h2⟩ := h2
    obtain ⟨a, b⟩ := it G2 H2 e2 r2.gok ho i
    obtain ⟨go, yl⟩ := a items[i] (List.getElem?_eq_getElem hlt)
    refine .inr ⟨go, fun σ3 H3 => ∃ ρ3 G3, Ext G1 H1 G3 H3 ∧ DRel X.K σ3 H3 ρ3 G3 ∧ dForGo ok g tb (items.drop (i + 1)) E ρ3 G3, fun σ3 H3 ⟨ρ3, G3, q⟩ => ⟨items.length - (i + 1), by omega, rfl, hlt, ρ3, G3, q⟩, fun x H3 hy => ?_⟩
    obtain ⟨e3, g3, rx⟩ := yl x H3 hy
    refine ⟨ρ2, G2, items[i], _, r2.ext e3 g3, rx, h2, fun σ4 ρ4 H4 G4 e4 r4 h4 => ?_⟩
    have e5 := (e2.trans e3).trans e4
    refine ⟨ρ4, G4, _, r4, h4, ?_, ?_, ?_, ?_⟩
    · exact fun σ' ρ' H' G' e' r' h' => ⟨ρ', G', e5.trans e', r', h'⟩
    · exact fun v d H' G' e' => k2 v d H' G' ((e1.trans e5).trans e')
    · exact fun σ' ρ' H' G' e' r' h' => k1 σ' ρ' H' G' ((e1.trans e5).trans e') r' h'
    · exact fun σ' ρ' H' G' e' r' h' => ⟨ρ', G', e5.trans e', r', h'⟩
  · have e : i = items.length := by omega
    subst e
    rw [List.drop_length] at h2
    unfold dForGo at h2
    exact .inl ⟨(it G2 H2 e2 r2.gok h2.1 _).2 rfl, k1 σ2 ρ2 H2 G2 (e1.trans e2) r2 h2.2⟩

def wipeD (ρ : DSt) : List Nat → DSt
  | [] => ρ
  | v :: vs => (wipeD ρ vs).set v none
theorem DRel.wipe {K : PySem.W.Frag} {σ : St} {H : Hp} {ρ : DSt} {G : GH} (r : DRel K σ H ρ G) : ∀ vs : List Nat, DRel K (wipe σ vs) H (wipeD ρ vs) G
  | [] => r
  | v :: vs => by
    have ih := DRel.wipe r vs
    unfold L2.wipe wipeD
    refine ⟨by simp [ih.len], fun i d h => ?_, ih.gok⟩
    by_cases q : v = i
    · subst q
      by_cases hl : v < (wipeD ρ vs).length
      · rw [List.getElem?_set_self hl] at h; cases h
      · rw [List.getElem?_eq_none (by simpa using hl)] at h; cases h
    · rw [List.getElem?_set_ne q] at h
      obtain ⟨w, h1, h2⟩ := ih.at_ i d h
      exact ⟨w, by rw [List.getElem?_set_ne q]; exact h1, h2⟩
abbrev DTs (X : Cx) (ifs : List Expr) (t : DTT) : Prop := PTs X ifs (upT X.K t)
@[simp] def dYes : DTT := fun _ G Q => Q true G
theorem dts_nil : DTs X [] dYes := ⟨fun pins s σ H Q I ⟨ρ, G, q, r, h, k⟩ => (pts_nil (X := X)).run pins s σ H Q I (k true H G (Ext.refl G H) r h)⟩
theorem dts_one {c : Expr} {t : DTT} (h : DT X c t) : DTs X [c] t := pts_one h
end
end Dl

namespace Dl
open PySem L2

inductive CT where
  | one (i : Nat)
  | tup (is : List Nat)
def CT.slots : CT → List Nat
  | .one i => [i]
  | .tup is => is
def setAll : DSt → List Nat → List D → Option DSt
  | ρ, [], [] => some ρ
  | ρ, i :: is, d :: ds => setAll (ρ.set i (some d)) is ds
  | _, _, _ => none
def bindC : CT → D → DSt → Option DSt
  | .one i, d, ρ => some (ρ.set i (some d))
  | .tup is, .tup ds, ρ => setAll ρ is ds
  | .tup _, _, _ => none
def gNames : List Nat → TGs
  | [] => gNil
  | i :: is => gCons (gName i) (gNames is)
def CT.gV (K : PySem.W.Frag) : CT → TG
  | .one i => gName i
  | .tup is => gTup K is.length (gNames is)
theorem wipe_set {σ : St} {i : Nat} {x : Option V} : ∀ {vs : List Nat}, i ∈ vs → wipe (σ.set i x) vs = wipe σ vs
  | v :: vs, h => by
    unfold wipe
    by_cases q : i ∈ vs
    · rw [wipe_set q]
    · have e : v = i := by
        rcases List.mem_cons.mp h with e | e
        · exact e.symm
        · exact absurd e q
      subst e
      have go : ∀ ws : List Nat, v ∉ ws → wipe (σ.set v x) ws = (wipe σ ws).set v x := by
        intro ws
        induction ws with
        | nil => intro _; rfl
        | cons w ws ih =>
          intro hw
          simp only [List.mem_cons, not_or] at hw
          unfold wipe
          rw [ih hw.2, List.set_comm _ _ hw.1]
      rw [go vs q, List.set_set]
theorem wipe_wipe (σ : St) (vs : List Nat) : wipe (wipe σ vs) vs = wipe σ vs := by
  have go : ∀ ws : List Nat, (∀ i ∈ ws, i ∈ vs) → wipe (wipe σ ws) vs = wipe σ vs := by
    intro ws
    induction ws with
    | nil => intro _; rfl
    | cons w ws ih =>
      intro h
      show wipe ((wipe σ ws).set w none) vs = wipe σ vs
      rw [wipe_set (h w List.mem_cons_self)]
      exact ih fun i hi => h i (List.mem_cons_of_mem _ hi)
  exact go vs fun _ h => h
theorem setAll_ok {K : PySem.W.Frag} {H : Hp} {G : GH} {vs : List Nat} : ∀ {is : List Nat} {ds : List D} {xs : List V} {ρ ρ' : DSt} {σ : St} {Q : St → Hp → Prop}, (∀ i ∈ is, i ∈ vs) → DRel K σ H ρ G → RepL K G H ds xs → setAll ρ is ds = some ρ' →
    (∀ σ', DRel K σ' H ρ' G → wipe σ' vs = wipe σ vs → Q σ' H) → xs.length = is.length ∧ gNames is xs σ H Q
  | [], [], _, ρ, ρ', σ, Q, hi, r, rl, e, k => by
    unfold RepL at rl
    subst rl
    simp [setAll] at e
    subst e
    exact ⟨rfl, rfl, k σ r rfl⟩
  | i :: is, d :: ds, _, ρ, ρ', σ, Q, hi, r, rl, e, k => by
    unfold RepL at rl
    obtain ⟨x, xs, rfl, hx, hxs⟩ := rl
    have e' : setAll (ρ.set i (some d)) is ds = some ρ' := e
    obtain ⟨l, g⟩ := setAll_ok (vs := vs) (Q := Q) (fun j hj => hi j (List.mem_cons_of_mem _ hj)) (r.set i hx) hxs e' fun σ' r' w => k σ' r' (by rw [w, wipe_set (hi i List.mem_cons_self)])
    exact ⟨by simp [l], x, xs, rfl, g⟩
  | [], _ :: _, _, _, _, _, _, _, _, _, e, _ => by simp [setAll] at e
  | _ :: _, [], _, _, _, _, _, _, _, _, e, _ => by simp [setAll] at e
theorem bindC_ok {K : PySem.W.Frag} {H : Hp} {G : GH} {vs : List Nat} {ct : CT} {d : D} {v : V} {ρ ρ' : DSt} {σ : St} {Q : St → Hp → Prop} (hi : ∀ i ∈ ct.slots, i ∈ vs) (r : DRel K σ H ρ G) (rv : RepV K G H d v) (e : bindC ct d ρ = some ρ')
    (k : ∀ σ', DRel K σ' H ρ' G → wipe σ' vs = wipe σ vs → Q σ' H) : ct.gV K v σ H Q := by
  cases ct with
  | one i =>
    simp only [bindC, Option.some.injEq] at e
    subst e
    exact k _ (r.set i rv) (wipe_set (hi i (by simp [CT.slots])))
  | tup is =>
    cases d with
    | tup ds =>
      unfold RepV at rv
      obtain ⟨a, xs, rfl, ta, rl⟩ := rv
      obtain ⟨l, g⟩ := setAll_ok (Q := Q) hi r rl e k
      exact ⟨a, xs, rfl, ta.sq, l, g⟩
    | _ => simp [bindC] at e
def dLcGo (ok : GH → Prop) (ct : CT) (tt : DTT) (te : DTE) (ρ : DSt) (p : Addr) : List D → GH → DK → Prop
  | [], G, Q => ok G ∧ Q (.ref p) G
  | x :: xs, G, Q => ok G ∧ match bindC ct x ρ with
    | none => False
    | some ρ2 => tt ρ2 G fun b G3 => if b = true then te ρ2 G3 fun y G4 => (match G4 p with
        | some (.lst acc) => acc.length < sizeLine ∧ dLcGo ok ct tt te ρ p xs (updG G4 p (.lst (acc ++ [y]))) Q
        | _ => False) else dLcGo ok ct tt te ρ p xs G3 Q
def dLc (wi : DTI) (ct : CT) (tt : DTT) (te : DTE) (vs : List Nat) : DTE := fun ρ G Q => wi ρ G fun items ok G1 => ∀ p, G1 p = none → dLcGo ok ct tt te (wipeD ρ vs) p items (updG G1 p (.lst [])) Q
theorem up_lc {K : PySem.W.Frag} {wi : DTI} {ct : CT} {tt : DTT} {te : DTE} {vs : List Nat} (hi : ∀ i ∈ ct.slots, i ∈ vs) {σ : St} {H : Hp} {Q : VK} (h : up K (dLc wi ct tt te vs) σ H Q) :
    tLc (upI K wi) (ct.gV K) (upT K tt) (up K te) vs σ H Q := by
  obtain ⟨ρ, G, q, r, h, k⟩ := h
  refine ⟨ρ, G, _, r, h, fun J items ok H1 G1 e1 r1 it h1 => fun p hp => ?_⟩
  obtain ⟨e2, r2, _⟩ := r1.newLst hp (repL_nil (K := K) (G := G1) (H := H1))
  have h2 := h1 p (r1.gok.fresh hp)
  refine ⟨fun i m H2 => m = items.length - i ∧ i ≤ items.length ∧ ∃ G2, Ext (updG G1 p (.lst [])) (upd H1 p (.lst [])) G2 H2 ∧ GOk K G2 H2 ∧ dLcGo ok ct tt te (wipeD ρ vs) p (items.drop i) G2 q, ⟨items.length, rfl, Nat.zero_le _, _, Ext.refl _ _, r2.gok, h2⟩, ?_⟩
  rintro i m H2 ⟨rfl, hi2, G2, e3, g3, h3⟩
  have r3 : DRel K σ H2 ρ G2 := r2.ext e3 g3
  have e13 : Ext G1 H1 G2 H2 := e2.trans e3
  by_cases hlt : i < items.length
  · rw [List.drop_eq_getElem_cons hlt] at h3
    unfold dLcGo at h3
    obtain ⟨ho, h3⟩ := h3
    obtain ⟨a, b⟩ := it G2 H2 e13 g3 ho i
    obtain ⟨go, yl⟩ := a items[i] (List.getElem?_eq_getElem hlt)
    refine .inr ⟨go, fun H3 => ∃ G3, Ext (updG G1 p (.lst [])) (upd H1 p (.lst [])) G3 H3 ∧ GOk K G3 H3 ∧ dLcGo ok ct tt te (wipeD ρ vs) p (items.drop (i + 1)) G3 q, fun H3 ⟨G3, q3⟩ => ⟨items.length - (i + 1), by omega, rfl, hlt, G3, q3⟩, fun x H3 hy => ?_⟩
    obtain ⟨e4, g4, rx⟩ := yl x H3 hy
    have r4 : DRel K (wipe σ vs) H3 (wipeD ρ vs) G2 := (r3.ext e4 g4).wipe vs
    cases eb : bindC ct items[i] (wipeD ρ vs) with
    | none => rw [eb] at h3; exact h3.elim
    | some ρ2 =>
      rw [eb] at h3
      refine bindC_ok hi r4 rx eb fun σ5 r5 w5 => ⟨by rw [w5, wipe_wipe], ρ2, G2, _, r5, h3, fun b H6 G6 e6 r6 h6 => ?_⟩
      have e36 := (e3.trans e4).trans e6
      cases b with
      | false => exact ⟨G6, e36, r6.gok, h6⟩
      | true =>
        refine ⟨ρ2, G6, _, r6, h6, fun y dy H7 G7 e7 r7 v7 h7 => ?_⟩
        cases hg : G7 p with
        | none => rw [hg] at h7; exact h7.elim
        | some o =>
          rw [hg] at h7
          cases o with
          | lst acc =>
            obtain ⟨xs, hx, rx⟩ := r7.gok p _ hg
            have e8 : Ext G7 H7 (updG G7 p (.lst (acc ++ [dy]))) (upd H7 p (.lst (xs ++ [y]))) := Ext.write hg
            refine ⟨xs, hx, by rw [rx.length]; exact h7.1, _, (e36.trans e7).trans e8, r7.gok.put e8 ⟨_, upd_same, (rx.append (repL_one v7)).ext e8⟩, h7.2⟩
          | dct _ => exact h7.elim
          | raw _ => exact h7.elim
          | ins _ _ => exact h7.elim
          | dtp _ => exact h7.elim
          | tab _ => exact h7.elim
          | slt _ _ => exact h7.elim
  · have e : i = items.length := by omega
    subst e
    rw [List.drop_length] at h3
    unfold dLcGo at h3
    refine .inl ⟨(it G2 H2 e13 g3 h3.1 _).2 rfl, k _ (.ref p) H2 G2 (e1.trans e13) (r3) (by unfold RepV; rfl) h3.2⟩
section
variable {X : Cx}
theorem de_lc {elt tg iter : Expr} {ifs : List Expr} {scope : Scope} {own : List (Str × Nat)} {pos : Pos} {wi : DTI} {ct : CT} {tt : DTT} {te : DTE} (hc : X.calm = true) (hN : X.N.Nodup) (hi : DI X tg iter wi) (ok : BlkOk X.N X.env.scope scope own)
    (hv : ∀ i ∈ ct.slots, i ∈ own.map (·.2))
    (hg : ∀ (s : Shared) (H : Hp) (C : Addr) (cl : List (Str × Addr)) (fp : List Addr), PG (X.blk s H scope (compEnvC scope cl C X.env) fp) tg (ct.gV X.K)) (ht : ∀ (s : Shared) (H : Hp) (C : Addr) (cl : List (Str × Addr)) (fp : List Addr), DTs (X.blk s H scope (compEnvC scope cl C X.env) fp) ifs tt)
    (he : ∀ (s : Shared) (H : Hp) (C : Addr) (cl : List (Str × Addr)) (fp : List Addr), DE (X.blk s H scope (compEnvC scope cl C X.env) fp) elt te) (hs : ∀ x, foldedSetIterable iter X.env x = pure x := by intro _; rfl) :
    DE X (.ListComp elt [⟨tg, iter, ifs, 0⟩] scope pos) (dLc wi ct tt te (own.map (·.2))) :=
  (pe_lc hc hN hi ok hg ht he hs).imp fun _ _ _ h => up_lc hv h
theorem ds_setLc {i : Nat} {y : Str} {py : Pos} {elt tg iter : Expr} {ifs : List Expr} {scope : Scope} {own : List (Str × Nat)} {pos spos : Pos} {wi : DTI} {ct : CT} {tt : DTT} {te : DTE} (hc : X.calm = true) (hN : X.N.Nodup) (hy : X.N[i]? = some y) (hyl : X.env.scope.names.lookup y = some .local)
    (hsw : swapsWith (.ListComp elt [⟨tg, iter, ifs, 0⟩] scope pos) (some (.Name y py)) spos.line X.env = pure true) (hi : DI X tg iter wi) (ok : BlkOk X.N X.env.scope scope own)
    (hv : ∀ i ∈ ct.slots, i ∈ own.map (·.2))
    (hg : ∀ (s : Shared) (H : Hp) (C : Addr) (cl : List (Str × Addr)) (fp : List Addr), PG (X.blk s H scope (compEnvC scope cl C X.env) fp) tg (ct.gV X.K)) (ht : ∀ (s : Shared) (H : Hp) (C : Addr) (cl : List (Str × Addr)) (fp : List Addr), DTs (X.blk s H scope (compEnvC scope cl C X.env) fp) ifs tt)
    (he : ∀ (s : Shared) (H : Hp) (C : Addr) (cl : List (Str × Addr)) (fp : List Addr), DE (X.blk s H scope (compEnvC scope cl C X.env) fp) elt te) (hs : ∀ x, foldedSetIterable iter X.env x = pure x := by intro _; rfl) :
    DS X (.Assign [.Name y py] (.ListComp elt [⟨tg, iter, ifs, 0⟩] scope pos) spos) (dAsg (dLc wi ct tt te (own.map (·.2))) (gNm i)) := by
  refine (ps_setLc (tt := upT X.K tt) (te := up X.K te) hc hN hy hyl hsw hi ok hg ht he hs).imp fun D σ H h => ?_
  obtain ⟨ρ, G, E, r, h, k1, k2, k3, k4⟩ := h
  refine up_lc (K := X.K) (Q := fun x H1 => gName i x σ H1 D.nx) hv ⟨ρ, G, _, r, h, fun v d H1 G1 e1 r1 v1 h1 => ?_⟩
  exact k1 _ _ H1 G1 e1 (r1.set i v1) h1
theorem ds_setLcF {i : Nat} {y : Str} {py : Pos} {elt tg iter : Expr} {ifs : List Expr} {scope : Scope} {own : List (Str × Nat)} {pos spos : Pos} {wi : DTI} {ct : CT} {tt : DTT} {te : DTE} (hc : X.calm = true) (hN : X.N.Nodup) (hy : X.N[i]? = some y) (hyl : X.env.scope.names.lookup y = some .local)
    (hsw : swapsWith (.ListComp elt [⟨tg, iter, ifs, 0⟩] scope pos) (some (.Name y py)) spos.line X.env = pure true) (hi : DI X tg iter wi) (ok : BlkOk X.N X.env.scope scope own)
    (hv : ∀ i ∈ ct.slots, i ∈ own.map (·.2))
    (hg : ∀ (s : Shared) (H : Hp) (C : Addr) (cl : List (Str × Addr)) (fp : List Addr), PG (X.blk s H scope (compEnvC scope cl C X.env) fp) tg (ct.gV X.K)) (ht : ∀ (s : Shared) (H : Hp) (C : Addr) (cl : List (Str × Addr)) (fp : List Addr), DTs (X.blk s H scope (compEnvC scope cl C X.env) fp) ifs tt)
    (he : ∀ (s : Shared) (H : Hp) (C : Addr) (cl : List (Str × Addr)) (fp : List Addr), DE (X.blk s H scope (compEnvC scope cl C X.env) fp) elt te) (hs : ∀ x, foldedSetIterable iter X.env x = pure x := by intro _; rfl) :
    DS X (.Assign [.Name y py] (.ListComp elt [⟨tg, iter, ifs, 0⟩] scope pos) spos) (dAsg (dFrz (dLc wi ct tt te (own.map (·.2)))) (gNm i)) := by
  refine (ps_setLc (tt := upT X.K tt) (te := up X.K te) hc hN hy hyl hsw hi ok hg ht he hs).imp fun D σ H h => ?_
  obtain ⟨ρ, G, E, r, h, k1, k2, k3, k4⟩ := h
  refine up_lc (K := X.K) (Q := fun x H1 => gName i x σ H1 D.nx) hv ⟨ρ, G, _, r, h, fun v d H1 G1 e1 r1 v1 h1 => ?_⟩
  cases d with
  | ref p =>
    dsimp only at h1
    cases q : G1 p with
    | none => rw [q] at h1; exact k1 _ _ H1 G1 e1 (r1.set i v1) h1
    | some o =>
      rw [q] at h1
      cases o with
      | lst ds =>
        dsimp only at h1
        obtain ⟨xs, hx, rx⟩ := r1.gok p _ q
        have e2 : Ext G1 H1 (dropG G1 p) H1 := Ext.drop
        refine k1 _ _ H1 (dropG G1 p) (e1.trans e2) ((r1.ext e2 r1.gok.drop).set i ?_) h1
        unfold RepV at v1 ⊢
        exact ⟨p, xs, v1, ⟨dropG_same, hx⟩, rx.ext e2⟩
      | dct kvs => exact k1 _ _ H1 G1 e1 (r1.set i v1) h1
      | raw o => exact k1 _ _ H1 G1 e1 (r1.set i v1) h1
      | ins _ _ => exact k1 _ _ H1 G1 e1 (r1.set i v1) h1
      | dtp _ => exact k1 _ _ H1 G1 e1 (r1.set i v1) h1
      | tab _ => exact k1 _ _ H1 G1 e1 (r1.set i v1) h1
      | slt _ _ => exact k1 _ _ H1 G1 e1 (r1.set i v1) h1
  | _ => exact k1 _ _ H1 G1 e1 (r1.set i v1) h1
end

structure DX where
  cls : Str
  fs : List (Str × D)
abbrev DXK := DX → GH → Prop
abbrev DSp := List D → GH → DK → DXK → Prop
def ExcRep (K : PySem.W.Frag) (G : GH) (H : Hp) (x : DX) (c : Value) (od : Option Addr) : Prop := c = .ref (He.ga K x.cls) ∧ ∃ d ws, od = some d ∧ G d = none ∧ H d = some (.xd ws) ∧ ws.map (·.1) = x.fs.map (·.1) ∧ RepL K G H (x.fs.map (·.2)) (ws.map (·.2))
def toSp (K : PySem.W.Frag) (sp : DSp) : Sp := fun vs H Qv Ev => ∃ ds G Q E, RepL K G H ds vs ∧ GOk K G H ∧ sp ds G Q E ∧ (∀ v d H' G', Ext G H G' H' → GOk K G' H' → RepV K G' H' d v → Q d G' → Qv v H') ∧
  (∀ x c od H' G', Ext G H G' H' → GOk K G' H' → ExcRep K G' H' x c od → E x G' → Ev c od H')
abbrev noX : DXK := fun _ _ => False
structure GFn (P : Program) (w : World) (K : PySem.W.Frag) (mg : Str → Option Value) (base : Heap) (CX : CXT) (k : Nat) (f : Addr) (fd : FuncData) (ps : List Str) (sp : Sp) : Prop where
  arity : ∀ xs H Q E, sp xs H Q E → xs.length = ps.length
  go : ∀ (A : Around) (out : List Env) (st : Shared) (H : Hp) (ar : Args) (us : List Value) (xs : List V) (Q : VK) (E : XK), Room k A → A.guards = some [] → Env0 P w K mg base A out st H →
    BindsTo st fd ar (ps.zip us) → Vals xs us → sp xs H Q E → codeAny (model P w) A (.call (.ref f) ar) (CR CX out P w H st Q E) st
theorem GFn.up {P : Program} {w : World} {K : PySem.W.Frag} {mg : Str → Option Value} {base : Heap} {CX : CXT} {j k : Nat} {f : Addr} {fd : FuncData} {ps : List Str} {sp : Sp} (F : GFn P w K mg base CX j f fd ps sp) (h : j ≤ k) : GFn P w K mg base CX k f fd ps sp :=
  ⟨F.arity, fun A out st H ar us xs Q E hr => F.go A out st H ar us xs Q E (hr.mono h)⟩
theorem GFn.weaken {P : Program} {w : World} {K : PySem.W.Frag} {mg : Str → Option Value} {base : Heap} {CX : CXT} {k : Nat} {f : Addr} {fd : FuncData} {ps : List Str} {sp sp' : Sp} (F : GFn P w K mg base CX k f fd ps sp) (h : ∀ xs H Q E, sp' xs H Q E → sp xs H Q E) :
    GFn P w K mg base CX k f fd ps sp' :=
  ⟨fun xs H Q E q => F.arity xs H Q E (h _ _ _ _ q), fun A out st H ar us xs Q E hr hg he hb hv hs => F.go A out st H ar us xs Q E hr hg he hb hv (h _ _ _ _ hs)⟩
theorem gfn_of {CX : CXT} {P : Program} {w : World} {K : PySem.W.Frag} {mg : Str → Option Value} {base : Heap} {k : Nat} {f : Addr} {fd : FuncData} {x qual : Str} {params : Arguments} {body : List Stmt} {scope : Scope} {dvs : List V} {kws : List (Str × V)}
    {N ps : List Str} {sp : Sp} (F : FunD K x qual params body scope dvs kws f fd) (S : FnScope N ps scope) (len : ∀ xs H Q E, sp xs H Q E → xs.length = ps.length)
    (hbody : ∀ (cdv : Value) (A : Around) (out : List Env) (st : Shared) (H : Hp) (xs : List V) (Q : VK) (E : XK), Room k (A.deeper (PyProof.Rows.envOfC qual scope st.heap.objs.size f cdv)) → (A.deeper (PyProof.Rows.envOfC qual scope st.heap.objs.size f cdv)).guards = some [] →
      sp xs H Q E → ∃ t, PSs (cxOf CX P w K mg base N qual scope f cdv A out st H E) body t ∧ t { nx := fun _ H' => Q .non H', rt := Q } (L2.start N xs) H) : GFn P w K mg base CX (k + 1) f fd ps sp := by
  obtain ⟨oc, od, dV, kV, doc, pm, an, cdv, ct, osl, hfd, lk, hcd, _, _⟩ := F.ex
  subst hfd
  constructor
  · exact len
  intro A out st H ar us xs Q E hr hgd e0 hb rl hsp
  have kin : K.In st.heap := PySem.W.Frag.In.keeps e0.mod.kin (fun b o e => (e0.bs b o e).1)
  have nl : st.heap.NoLimit := Heap.NoLimit.keeps e0.mod.nolimit (fun b o e => (e0.bs b o e).1)
  have kinds : ∀ y ∈ ps.zip us, scope.names.lookup y.1 = some .local ∨ (scope.names.lookup y.1 = some .cell ∧ ((cellsFrom (st.heap.objs.size + 1) scope.names []).lookup y.1).isSome = true) := by
    rintro ⟨n, v⟩ hy
    cases S.par n (List.of_mem_zip hy).1 with
    | inl q => exact .inl q
    | inr q => exact .inr ⟨q, PySem.W.cellsFrom_some _ _ _ (.inl q)⟩
  refine PySem.codeAny_call_function hr.depth (kin _ _ lk) rfl S.co S.gen rfl (PySem.W.codeRec_of kin hcd) ?_
  refine hb _ _ _ _ ?_
  refine wpAny_newFunctionEnv_cells S.kind kinds ?_
  intro env he s1 ic
  subst he
  refine ⟨nl.keeps ic.toInCall.keep, PySem.codeAny_func ?_⟩
  have gd : (A.deeper (PyProof.Rows.envOfC qual scope st.heap.objs.size f cdv)).guards = some [] := hgd
  obtain ⟨t, ht, hq⟩ := hbody cdv A out st H xs Q E (hr.deeper _) gd hsp
  have inv := inv_start (CX := CX) (E := E) S hr.hd e0 (len _ _ _ _ hsp) rl ic
  refine wpAny_mono (ht.run [] s1 _ H _ inv hq) ?_ (fun _ _ z => z)
  intro fl s2 hs
  cases fl with
  | ret u => obtain ⟨v, σ2, H2, J, rv, q⟩ := hs; exact ⟨v, H2, J.os, J.bare, J.base, J.hok, rv, q⟩
  | next => obtain ⟨σ2, H2, J, q⟩ := hs; exact ⟨V.non, H2, J.os, J.bare, J.base, J.hok, rfl, q⟩
  | brk => obtain ⟨_, _, _, q⟩ := hs; exact q.elim
  | cont => obtain ⟨_, _, _, q⟩ := hs; exact q.elim
section
variable {X : Cx} {CX : CXT} {k : Nat} {f : Addr} {fd : FuncData} {ps : List Str} {x : Str} {p pos : Pos} {e : Expr} {es : List Expr} {E : XK}
theorem g_run {sp : Sp} {pins : List (Addr × Obj)} {σ : St} {H : Hp} {s : Shared} {Q : VK} {us : List Value} {xs : List V} (F : GFn X.prog X.w X.K X.mg X.base CX k f fd ps sp) (hr : Room k X.A) (hgd : X.A.guards = some []) (hb : Binds X.K fd ps []) (hx : Passes CX X E)
    (I : Inv X pins σ H s) (r : Vals xs us) (h : sp xs H Q E) : wpAny (model X.prog X.w) X.A (PySem.call (.ref f) us) (EP X pins σ Q) X.xe s := by
  have al : (us ++ []).length = ps.length := by rw [List.append_nil, ← r.length]; exact F.arity _ _ _ _ h
  have bd := hb s us I.kIn al
  rw [List.append_nil] at bd
  refine wpAny_call (codeAny_mono (F.go X.A X.stack s H ⟨us, []⟩ us xs Q E hr hgd I.env0 bd r h) ?_)
  intro res s2 hq
  match res, hq with
  | .error er, hq => exact hx pins σ H s er s2 I hq
  | .ok (.ret u), hq => exact I.after hq
theorem ge_call {sp : Sp} {t : TA} (F : GFn X.prog X.w X.K X.mg X.base CX k f fd ps sp) (hr : Room k X.A) (hgd : X.A.guards = some []) (hg : Gl X x) (hm : X.mg x = some (.ref f)) (hk : PySem.W.keepIn X.K (.ref f) = true) (hb : Binds X.K fd ps []) (hx : Passes CX X E)
    (ha : PA X (e :: es) t) (hdb : (x == ("__debug__" : Str)) = false := by decide) (he : starEach (e :: es) X.env = (false, eval e X.env) :: starEach es X.env := by rfl) (hpl : (backTo pos (starEach es X.env)).any (·.1) = false := by rfl) :
    PE X (.Call (.Name x p) (e :: es) [] pos) (fun σ H Q => t σ H fun vs H1 => sp vs H1 Q E) := by
  constructor
  intro pins s σ H Q I h
  refine wpAny_Call_Name_kw (ld_glob I hg hm ?_ hdb)
  refine PySem.W.callWith_K (h₀ := X.base) I.ok.mod.kin hk ?_ he hpl
  refine thn (ha.run pos pins s σ H _ I h) ?_
  rintro us s1 ⟨xs, H1, I1, r, q⟩
  exact ⟨I1.kIn, g_run F hr hgd hb hx I1 r q⟩
theorem ge_call0 {sp : Sp} (F : GFn X.prog X.w X.K X.mg X.base CX k f fd ps sp) (hr : Room k X.A) (hgd : X.A.guards = some []) (hg : Gl X x) (hm : X.mg x = some (.ref f)) (hk : PySem.W.keepIn X.K (.ref f) = true) (hb : Binds X.K fd ps []) (hx : Passes CX X E)
    (hdb : (x == ("__debug__" : Str)) = false := by decide) : PE X (.Call (.Name x p) [] [] pos) (fun σ H Q => sp [] H Q E) := by
  constructor
  intro pins s σ H Q I h
  refine wpAny_Call_Name_kw (ld_glob I hg hm ?_ hdb)
  exact PySem.W.callWith_K0 I.kIn hk (g_run (us := []) F hr hgd hb hx I .nil h)
end
@[simp] def dCall (sp : DSp) (ta : DTA) : DTE := fun ρ G Q => ta ρ G fun ds G1 => sp ds G1 Q noX
abbrev DFn (P : Program) (w : World) (K : PySem.W.Frag) (mg : Str → Option Value) (base : Heap) (k : Nat) (f : Addr) (fd : FuncData) (ps : List Str) (sp : DSp) : Prop := GFn P w K mg base CX0 k f fd ps (toSp K sp)
section
variable {X : Cx} {k : Nat} {f : Addr} {fd : FuncData} {ps : List Str} {sp : DSp} {x : Str} {p pos : Pos} {e : Expr} {es : List Expr} {ta : DTA}
theorem sp_at {K : PySem.W.Frag} {σ : St} {H : Hp} {ρ : DSt} {G : GH} {Q : VK} {q : DK} {vs : List V} {ds : List D} (r : DRel K σ H ρ G) (v : RepL K G H ds vs) (h : sp ds G q noX) (k : ∀ v d H' G', Ext G H G' H' → DRel K σ H' ρ G' → RepV K G' H' d v → q d G' → Q v H') : toSp K sp vs H Q E0 :=
  ⟨ds, G, q, noX, v, r.gok, h, fun v d H' G' e2 g2 v2 h2 => k v d H' G' e2 (r.ext e2 g2) v2 h2, fun _ _ _ _ _ _ _ _ z => z.elim⟩
theorem de_call (F : DFn X.prog X.w X.K X.mg X.base k f fd ps sp) (hr : Room k X.A) (hgd : X.A.guards = some []) (hg : Gl X x) (hm : X.mg x = some (.ref f)) (hk : PySem.W.keepIn X.K (.ref f) = true) (hb : Binds X.K fd ps [])
    (ha : DA X (e :: es) ta) (hdb : (x == ("__debug__" : Str)) = false := by decide) (he : starEach (e :: es) X.env = (false, eval e X.env) :: starEach es X.env := by rfl) (hpl : (backTo pos (starEach es X.env)).any (·.1) = false := by rfl) :
    DE X (.Call (.Name x p) (e :: es) [] pos) (dCall sp ta) := (ge_call F hr hgd hg hm hk hb pass0 ha hdb he hpl).imp fun σ H Q ⟨ρ, G, q, r, h, k⟩ => by
  refine ⟨ρ, G, _, r, h, fun vs ds H1 G1 e1 r1 v1 h1 => ?_⟩
  exact sp_at r1 v1 h1 fun v d H' G' e2 r2 v2 h2 => k v d H' G' (e1.trans e2) r2 v2 h2
theorem de_call0 (F : DFn X.prog X.w X.K X.mg X.base k f fd ps sp) (hr : Room k X.A) (hgd : X.A.guards = some []) (hg : Gl X x) (hm : X.mg x = some (.ref f)) (hk : PySem.W.keepIn X.K (.ref f) = true) (hb : Binds X.K fd ps [])
    (hdb : (x == ("__debug__" : Str)) = false := by decide) : DE X (.Call (.Name x p) [] [] pos) (dCall sp dNil) := (ge_call0 F hr hgd hg hm hk hb pass0 hdb).imp fun σ H Q ⟨ρ, G, q, r, h, k⟩ => sp_at r repL_nil h k
end
def startD (n : Nat) (ds : List D) : DSt := ds.map some ++ List.replicate (n - ds.length) none
theorem start_rel {K : PySem.W.Frag} {H : Hp} {G : GH} {N : List Str} {ds : List D} {vs : List V} (rl : RepL K G H ds vs) (g : GOk K G H) : DRel K (L2.start N vs) H (startD N.length ds) G := by
  have hl := rl.length
  refine ⟨by simp [L2.start, startD, hl], fun i d h => ?_, g⟩
  unfold startD at h
  by_cases hi : i < ds.length
  · rw [List.getElem?_append_left (by simpa using hi), List.getElem?_map] at h
    cases q : ds[i]? with
    | none => rw [q] at h; simp at h
    | some d' =>
      rw [q] at h
      simp at h
      subst h
      obtain ⟨v, e1, e2⟩ := rl.get q
      refine ⟨v, ?_, e2⟩
      unfold L2.start
      rw [List.getElem?_append_left (by simp [hl]; exact hi), List.getElem?_map, e1]
      rfl
  · rw [List.getElem?_append_right (by simpa using hi), List.getElem?_replicate] at h
    split at h <;> cases h
theorem dfn_of {P : Program} {w : World} {K : PySem.W.Frag} {mg : Str → Option Value} {base : Heap} {x qual : Str} {params : Arguments} {body : List Stmt} {scope : Scope} {dvs : List V} {kws : List (Str × V)} {f : Addr} {fd : FuncData}
    {N ps : List Str} {k : Nat} {sp : DSp} {t : DTS} (F : FunD K x qual params body scope dvs kws f fd) (S : FnScope N ps scope) (len : ∀ ds G Q E, sp ds G Q E → ds.length = ps.length)
    (hbody : ∀ (cdv : Value) (A : Around) (out : List Env) (st : Shared) (H : Hp) (E : XK), Room k (A.deeper (PyProof.Rows.envOfC qual scope st.heap.objs.size f cdv)) → (A.deeper (PyProof.Rows.envOfC qual scope st.heap.objs.size f cdv)).guards = some [] →
      DSs (cxOf CX0 P w K mg base N qual scope f cdv A out st H E).nox body t)
    (ok : ∀ ds G Q E, sp ds G Q E → t { nx := fun _ G' => Q .non G', rt := Q } (startD N.length ds) G) : DFn P w K mg base (k + 1) f fd ps sp := by
  refine gfn_of F S (fun vs H Q E h => ?_) fun cdv A outer s H vs Q E hr hg h => ⟨_, PSs.nox (hbody cdv A outer s H E hr hg), ?_⟩
  · obtain ⟨ds, G, q, e, rl, _, h, _⟩ := h
    rw [rl.length]
    exact len _ _ _ _ h
  · obtain ⟨ds, G, q, e, rl, g, h, kq, ke⟩ := h
    refine ⟨startD N.length ds, G, _, start_rel rl g, ok ds G q e h, ?_, ?_, ?_, ?_⟩
    · exact fun σ' ρ' H' G' e' r' h' => kq .non .non H' G' e' r'.gok (by unfold RepV; rfl) h'
    · exact fun v d H' G' e' g' v' h' => kq v d H' G' e' g' v' h'
    · exact fun _ _ _ _ _ _ z => z.elim
    · exact fun _ _ _ _ _ _ z => z.elim
end Dl

namespace Dl
open PySem L2

@[simp] def lsOf (G : GH) : D → Option (List D)
  | .lst ds => some ds
  | .ref a => (match G a with
    | some (.lst ds) => some ds
    | _ => none)
  | _ => none
@[simp] def sqOf (G : GH) : D → Option (List D)
  | .tup ds => some ds
  | .lst ds => some ds
  | .ref a => (match G a with
    | some (.lst ds) => some ds
    | _ => none)
  | _ => none
section
variable {K : PySem.W.Frag} {G : GH} {H : Hp} {d : D} {v : V} {ds : List D}
theorem ls_at (g : GOk K G H) (r : RepV K G H d v) (h : lsOf G d = some ds) : ∃ a xs, v = .ref a ∧ H a = some (.lst xs) ∧ RepL K G H ds xs := by
  cases d with
  | lst es =>
    simp only [lsOf, Option.some.injEq] at h
    subst h
    unfold RepV at r
    obtain ⟨a, xs, rfl, ta, rl⟩ := r
    exact ⟨a, xs, rfl, ta.2, rl⟩
  | ref a =>
    simp only [lsOf] at h
    unfold RepV at r
    subst r
    cases q : G a with
    | none => rw [q] at h; cases h
    | some o =>
      rw [q] at h
      cases o with
      | lst es =>
        simp only [Option.some.injEq] at h
        subst h
        obtain ⟨xs, h1, h2⟩ := g a _ q
        exact ⟨a, xs, rfl, h1, h2⟩
      | dct _ => cases h
      | raw _ => cases h
      | ins _ _ => cases h
      | dtp _ => cases h
      | tab _ => cases h
      | slt _ _ => cases h
  | _ => simp [lsOf] at h
theorem tp_at (r : RepV K G H (.tup ds) v) : ∃ a xs, v = .ref a ∧ SqT K H a xs ∧ RepL K G H ds xs := by
  unfold RepV at r
  obtain ⟨a, xs, rfl, ta, rl⟩ := r
  exact ⟨a, xs, rfl, ta.sq, rl⟩
theorem sq_at (g : GOk K G H) (r : RepV K G H d v) (h : sqOf G d = some ds) : ∃ a xs, v = .ref a ∧ (SqL K H a xs ∨ SqT K H a xs) ∧ RepL K G H ds xs := by
  cases d with
  | tup es =>
    simp only [sqOf, Option.some.injEq] at h
    subst h
    obtain ⟨a, xs, e, t, rl⟩ := tp_at r
    exact ⟨a, xs, e, .inr t, rl⟩
  | lst es =>
    obtain ⟨a, xs, e, t, rl⟩ := ls_at g r (ds := ds) h
    exact ⟨a, xs, e, .inl (SqL.of t), rl⟩
  | ref a =>
    obtain ⟨a, xs, e, t, rl⟩ := ls_at g r (ds := ds) h
    exact ⟨a, xs, e, .inl (SqL.of t), rl⟩
  | _ => simp [sqOf] at h
theorem rv_int {i : Int} (r : RepV K G H (.int i) v) : v = .int i := by unfold RepV at r; exact r
theorem rv_bl {i : Bool} (r : RepV K G H (.bl i) v) : v = .bl i := by unfold RepV at r; exact r
theorem rv_str {i : Str} (r : RepV K G H (.str i) v) : v = .str i := by unfold RepV at r; exact r
theorem rv_non (r : RepV K G H .non v) : v = .non := by unfold RepV at r; exact r
theorem rv_ref {a : Addr} (r : RepV K G H (.ref a) v) : v = .ref a := by unfold RepV at r; exact r
theorem int_rv {i : Int} : RepV K G H (.int i) (.int i) := by unfold RepV; rfl
theorem bl_rv {i : Bool} : RepV K G H (.bl i) (.bl i) := by unfold RepV; rfl
theorem str_rv {i : Str} : RepV K G H (.str i) (.str i) := by unfold RepV; rfl
theorem non_rv : RepV K G H .non .non := by unfold RepV; rfl
theorem ref_rv {a : Addr} : RepV K G H (.ref a) (.ref a) := by unfold RepV; rfl
theorem new_tup {p : Addr} {vs : List V} (g : GOk K G H) (hp : H p = none) (hv : RepL K G H ds vs) : Ext G H G (upd H p (.tup vs)) ∧ GOk K G (upd H p (.tup vs)) ∧ RepV K G (upd H p (.tup vs)) (.tup ds) (.ref p) := by
  have e : Ext G H G (upd H p (.tup vs)) := Ext.new hp
  refine ⟨e, g.new hp, ?_⟩
  unfold RepV
  exact ⟨p, vs, rfl, .inl ⟨g.fresh hp, upd_same⟩, hv.ext e⟩
theorem new_lst {p : Addr} {vs : List V} (g : GOk K G H) (hp : H p = none) (hv : RepL K G H ds vs) : Ext G H (updG G p (.lst ds)) (upd H p (.lst vs)) ∧ GOk K (updG G p (.lst ds)) (upd H p (.lst vs)) ∧ RepV K (updG G p (.lst ds)) (upd H p (.lst vs)) (.ref p) (.ref p) := by
  have e : Ext G H (updG G p (.lst ds)) (upd H p (.lst vs)) := Ext.newG hp
  exact ⟨e, g.put e ⟨vs, upd_same, hv.ext e⟩, ref_rv⟩
theorem put_lst {p : Addr} {vs : List V} {o : DO} (g : GOk K G H) (hp : G p = some o) (hv : RepL K G H ds vs) : Ext G H (updG G p (.lst ds)) (upd H p (.lst vs)) ∧ GOk K (updG G p (.lst ds)) (upd H p (.lst vs)) := by
  have e : Ext G H (updG G p (.lst ds)) (upd H p (.lst vs)) := Ext.write hp
  exact ⟨e, g.put e ⟨vs, upd_same, hv.ext e⟩⟩
end

@[simp] def rCatL (G : GH) (Q : DK) (a b : List D) : Prop := a.length + b.length ≤ sizeLine ∧ ∀ p, G p = none → Q (.ref p) (updG G p (.lst (a ++ b)))
@[simp] def rAdd : DR2 := fun x y G Q => match x with
  | .int i => (match y with
    | .int j => Q (.int (i + j)) G
    | _ => False)
  | .str a => (match y with
    | .str b => a.length + b.length ≤ sizeLine ∧ Q (.str (a ++ b)) G
    | _ => False)
  | .tup a => (match y with
    | .tup b => a.length + b.length ≤ sizeLine ∧ Q (.tup (a ++ b)) G
    | _ => False)
  | .lst a => (match lsOf G y with
    | some b => rCatL G Q a b
    | none => False)
  | .ref p => (match lsOf G (.ref p) with
    | some a => (match lsOf G y with
      | some b => rCatL G Q a b
      | none => False)
    | none => False)
  | _ => False
section
variable {X : Cx}
theorem cat_lists {pins : List (Addr × Obj)} {s : Shared} {σ : St} {H : Hp} {x y : V} {v u : Value} {Qv : VK} {G : GH} {dx dy : D} {q : DK} {a b : List D} (I : Inv X pins σ H s) (rx : RelV x v) (ry : RelV y u) (g : GOk X.K G H) (r1 : RepV X.K G H dx x) (r2 : RepV X.K G H dy y)
    (ha : lsOf G dx = some a) (hb : lsOf G dy = some b) (h : rCatL G q a b) (k : ∀ v d H' G', Ext G H G' H' → GOk X.K G' H' → RepV X.K G' H' d v → q d G' → Qv v H') : wpAny (model X.prog X.w) X.A (binaryOp .Add v u) (EP X pins σ Qv) X.xe s := by
  obtain ⟨l, xs, rfl, h1, l1⟩ := ls_at g r1 ha
  obtain ⟨m, ys, rfl, h2, l2⟩ := ls_at g r2 hb
  refine op_cat pins s σ H _ _ v u Qv I rx ry ⟨l, m, xs, ys, rfl, rfl, h1, h2, by rw [l1.length, l2.length]; exact h.1, fun p hp => ?_⟩
  obtain ⟨e, g', rv⟩ := new_lst g hp (l1.append l2)
  exact k _ _ _ _ e g' rv (h.2 p (g.fresh hp))
theorem o_add : DOp X (binaryOp .Add) rAdd := by
  intro pins s σ H x y v u Q I rx ry ⟨G, dx, dy, q, g, r1, r2, h, k⟩
  cases dx with
  | int i =>
    cases dy with
    | int j =>
      cases rv_int r1; cases rv_int r2
      exact op_add pins s σ H _ _ v u Q I rx ry ⟨i, j, rfl, rfl, k _ _ H G (Ext.refl G H) g int_rv h⟩
    | _ => exact h.elim
  | str a =>
    cases dy with
    | str b =>
      cases rv_str r1; cases rv_str r2
      exact op_add_str pins s σ H _ _ v u Q I rx ry ⟨a, b, rfl, rfl, h.1, k _ _ H G (Ext.refl G H) g str_rv h.2⟩
    | _ => exact h.elim
  | tup a =>
    cases dy with
    | tup b =>
      obtain ⟨l, xs, rfl, h1, l1⟩ := tp_at r1
      obtain ⟨m, ys, rfl, h2, l2⟩ := tp_at r2
      refine op_catA pins s σ H _ _ v u Q I rx ry ⟨l, m, xs, ys, rfl, rfl, h1, h2, by rw [l1.length, l2.length]; exact h.1, fun e => ?_, fun _ e => ?_, fun _ _ p hp => ?_⟩
      · have ea : a = [] := List.eq_nil_of_length_eq_zero (by rw [← l1.length, e]; rfl)
        subst ea
        exact k _ _ H G (Ext.refl G H) g r2 h.2
      · have ea : b = [] := List.eq_nil_of_length_eq_zero (by rw [← l2.length, e]; rfl)
        subst ea
        have h2 := h.2
        rw [List.append_nil] at h2
        exact k _ _ H G (Ext.refl G H) g r1 h2
      · obtain ⟨e, g', rv⟩ := new_tup g hp (l1.append l2)
        exact k _ _ _ _ e g' rv h.2
    | _ => exact h.elim
  | lst a =>
    dsimp only [rAdd] at h
    cases q2 : lsOf G dy with
    | none => rw [q2] at h; exact h.elim
    | some b => rw [q2] at h; exact cat_lists I rx ry g r1 r2 rfl q2 h k
  | ref p =>
    dsimp only [rAdd] at h
    cases q1 : lsOf G (.ref p) with
    | none => rw [q1] at h; exact h.elim
    | some a =>
      rw [q1] at h
      cases q2 : lsOf G dy with
      | none => rw [q2] at h; exact h.elim
      | some b => rw [q2] at h; exact cat_lists I rx ry g r1 r2 q1 q2 h k
  | _ => exact h.elim

@[simp] def rInt (C : Int → Int → Prop) (f : Int → Int → D) : DR2 := fun x y G Q => match x with
  | .int i => (match y with
    | .int j => C i j ∧ Q (f i j) G
    | _ => False)
  | _ => False
theorem o_int {f : Value → Value → Sem Value} {C : Int → Int → Prop} {g : Int → Int → Int} (ho : OpR X f (rI C fun i j => .int (g i j))) : DOp X f (rInt C fun i j => .int (g i j)) := by
  intro pins s σ H x y v u Q I rx ry ⟨G, dx, dy, q, g, r1, r2, h, k⟩
  cases dx with
  | int i =>
    cases dy with
    | int j =>
      cases rv_int r1; cases rv_int r2
      exact ho pins s σ H _ _ v u Q I rx ry ⟨i, j, rfl, rfl, h.1, k _ _ H G (Ext.refl G H) g int_rv h.2⟩
    | _ => exact h.elim
  | _ => exact h.elim
@[simp] def rInt0 (f : Int → Int → D) : DR2 := fun x y G Q => match x with
  | .int i => (match y with
    | .int j => Q (f i j) G
    | _ => False)
  | _ => False
theorem o_sub : DOp X (binaryOp .Sub) (rInt0 fun i j => .int (i - j)) := by
  intro pins s σ H x y v u Q I rx ry ⟨G, dx, dy, q, g, r1, r2, h, k⟩
  cases dx with
  | int i =>
    cases dy with
    | int j =>
      cases rv_int r1; cases rv_int r2
      exact op_sub pins s σ H _ _ v u Q I rx ry ⟨i, j, rfl, rfl, k _ _ H G (Ext.refl G H) g int_rv h⟩
    | _ => exact h.elim
  | _ => exact h.elim
theorem o_cmpI {f : Value → Value → Sem Value} {p : Int → Int → Bool} (ho : OpR X f (rI0 fun i j => .bl (p i j))) : DOp X f (rInt0 fun i j => .bl (p i j)) := by
  intro pins s σ H x y v u Q I rx ry ⟨G, dx, dy, q, g, r1, r2, h, k⟩
  cases dx with
  | int i =>
    cases dy with
    | int j =>
      cases rv_int r1; cases rv_int r2
      exact ho pins s σ H _ _ v u Q I rx ry ⟨i, j, rfl, rfl, k _ _ H G (Ext.refl G H) g bl_rv h⟩
    | _ => exact h.elim
  | _ => exact h.elim
abbrev rLt : DR2 := rInt0 fun i j => .bl (decide (i < j))
abbrev rLe : DR2 := rInt0 fun i j => .bl (decide (i ≤ j))
abbrev rGt : DR2 := rInt0 fun i j => .bl (decide (j < i))
abbrev rGe : DR2 := rInt0 fun i j => .bl (decide (j ≤ i))
theorem o_lt : DOp X (compareOp .Lt) rLt := o_cmpI op_lt
theorem o_le : DOp X (compareOp .LtE) rLe := o_cmpI op_le
theorem o_gt : DOp X (compareOp .Gt) rGt := o_cmpI op_gt
theorem o_ge : DOp X (compareOp .GtE) rGe := o_cmpI op_ge
abbrev rMod : DR2 := rInt (fun _ j => 0 < j) fun i j => .int (i % j)
abbrev rFdiv : DR2 := rInt CDiv fun i j => .int (i / j)
abbrev rPow : DR2 := rInt CPow fun i j => .int (i ^ j.toNat)
abbrev rSub : DR2 := rInt0 fun i j => .int (i - j)
theorem o_mod : DOp X (binaryOp .Mod) rMod := o_int op_mod
theorem o_fdiv : DOp X (binaryOp .FloorDiv) rFdiv := o_int op_fdiv
theorem o_pow : DOp X (binaryOp .Pow) rPow := o_int op_pow
end

section
open PySem.Spec PyProof.Rows
theorem tuple_mul0 (l : Addr) (items : Array Value) (n : Nat) (dd : Option Addr) (sl : Array (Option Value)) (x : Int) (u : Tok) (c0 : (decide (x < -(2 ^ 63)) || decide (x ≥ 2 ^ 63)) = false) (c1 : (items.isEmpty || x == 1) = false) (c2 : (decide (x ≤ 0) || items.isEmpty) = true) :
    Meets (Builtin.«tuple.__mul__» ⟨[.ref l, .int x u], []⟩) (fun _ R s => s.heap.get? l = some { cls := .type "tuple", dict := dd, data := .seq items n, slots := sl } ∧
      R (.ok (.ret (Value.ref s.heap.objs.size))) { s with heap := s.heap.push { cls := Value.type "tuple", data := Data.seq #[] }, toks := s.toks }) :=
  .of_wp fun prog w A R s h => by
    obtain ⟨hp, g, d, tk, os⟩ := s
    obtain ⟨hl, h⟩ := h
    have f1 := AutoSeq1.idx_int
    wp_walk using wpAny_loadPart' hl
    repeat (first
      | (refine wpAny_ite_false (decide_eq_false (by rw [c0]; exact Bool.false_ne_true)) ?_; wp_walk using wpAny_loadPart' hl)
      | (refine wpAny_ite_false (decide_eq_false (by rw [c1]; exact Bool.false_ne_true)) ?_; wp_walk using wpAny_loadPart' hl)
      | (refine wpAny_ite_true (decide_eq_true c2) ?_; wp_walk using wpAny_loadPart' hl))
    exact ⟨_, rfl, h⟩
theorem tuple_mul1 (l : Addr) (items : Array Value) (n : Nat) (dd : Option Addr) (sl : Array (Option Value)) (x : Int) (u : Tok) (c0 : (decide (x < -(2 ^ 63)) || decide (x ≥ 2 ^ 63)) = false) (c1 : (items.isEmpty || x == 1) = true) :
    Meets (Builtin.«tuple.__mul__» ⟨[.ref l, .int x u], []⟩) (fun _ R s => s.heap.get? l = some { cls := .type "tuple", dict := dd, data := .seq items n, slots := sl } ∧
      R (.ok (.ret (Value.ref l))) s) :=
  .of_wp fun prog w A R s h => by
    obtain ⟨hp, g, d, tk, os⟩ := s
    obtain ⟨hl, h⟩ := h
    have f1 := AutoSeq1.idx_int
    wp_walk using wpAny_loadPart' hl
    repeat (first
      | (refine wpAny_ite_false (decide_eq_false (by rw [c0]; exact Bool.false_ne_true)) ?_; wp_walk using wpAny_loadPart' hl)
      | (refine wpAny_ite_true (decide_eq_true c1) ?_; wp_walk using wpAny_loadPart' hl))
    exact ⟨_, rfl, h⟩
end
end Dl

namespace Dl
open PySem L2

section
open PySem.Spec PyProof.Rows
variable {X : Cx}
theorem tup_rep {pins : List (Addr × Obj)} {s : Shared} {σ : L2.St} {H : Hp} {l : Addr} {xs : List V} {k : Int} {t : Tok} {Q : VK} (I : Inv X pins σ H s) (hT : SqT X.K H l xs) (hk : -(2 ^ 63) ≤ k ∧ k < 2 ^ 63)
    (h : (xs = [] ∨ k = 1 → Q (.ref l) H) ∧ (xs ≠ [] → k ≤ 0 → ∀ p, H p = none → Q (.ref p) (upd H p (.tup [])))) (hc : xs = [] ∨ k ≤ 1) : wpAny (model X.prog X.w) X.A (binaryOp .Mult (.ref l) (.int k t)) (EP X pins σ Q) X.xe s := by
  obtain ⟨its, r, ⟨⟨cls, dd, data, sl⟩, ho, hcl, n, hd⟩, hs⟩ := I.tuple hT
  simp only at hcl hd
  subst hcl hd
  have hle : its.length = xs.length := r.length.symm
  have c0 : (decide (k < -(2 ^ 63)) || decide (k ≥ 2 ^ 63)) = false := by
    rw [decide_eq_false (by omega), decide_eq_false (by omega)] <;> rfl
  by_cases c1 : (its.toArray.isEmpty || k == 1) = true
  · refine wpAny_binaryOp_repeat_ref (T := "tuple") (U := "int") (by decide) ⟨_, ho, rfl⟩ (fun s' => typeIs_int s' k t) noFill_tuple_mul F.fills_int_mul F.slot_int_rmul repeat_tuple F.slot_int_index.lookup
      (call_meets F.slot_int_rmul (typeIs_int s k t) F.entry_int_rmul (F.args_int_rmul_2 _ _) (int_rmul_tuple k t l its.toArray n dd sl)
        ⟨ho, rfl, ⟨_, ho, rfl⟩, call_meets F.slot_tuple_mul ⟨_, ho, rfl⟩ F.entry_tuple_mul (F.args_tuple_mul_2 _ _) (tuple_mul1 l its.toArray n dd sl k t c0 c1) ⟨ho, ?_⟩⟩)
    refine ⟨.ref l, H, I, rfl, h.1 ?_⟩
    rw [Bool.or_eq_true] at c1
    rcases c1 with c1 | c1
    · refine .inl (List.eq_nil_of_length_eq_zero ?_)
      rw [← hle]
      simpa using c1
    · exact .inr (eq_of_beq c1)
  · have c1' : (its.toArray.isEmpty || k == 1) = false := by simpa using c1
    have hne : xs ≠ [] := fun e => by
      apply c1
      rw [e] at hle
      have : its = [] := List.eq_nil_of_length_eq_zero hle
      subst this
      rfl
    have hk1 : k ≠ 1 := fun e => by
      apply c1
      subst e
      simp
    have hk0 : k ≤ 0 := by
      rcases hc with e | e
      · exact absurd e hne
      · omega
    have c2 : (decide (k ≤ 0) || its.toArray.isEmpty) = true := by rw [decide_eq_true hk0] <;> rfl
    refine wpAny_binaryOp_repeat_ref (T := "tuple") (U := "int") (by decide) ⟨_, ho, rfl⟩ (fun s' => typeIs_int s' k t) noFill_tuple_mul F.fills_int_mul F.slot_int_rmul repeat_tuple F.slot_int_index.lookup
      (call_meets F.slot_int_rmul (typeIs_int s k t) F.entry_int_rmul (F.args_int_rmul_2 _ _) (int_rmul_tuple k t l its.toArray n dd sl)
        ⟨ho, rfl, ⟨_, ho, rfl⟩, call_meets F.slot_tuple_mul ⟨_, ho, rfl⟩ F.entry_tuple_mul (F.args_tuple_mul_2 _ _) (tuple_mul0 l its.toArray n dd sl k t c0 c1' c2) ⟨ho, ?_⟩⟩)
    have hf : H s.heap.objs.size = none := I.hok.fresh (Nat.le_refl _)
    refine ⟨.ref s.heap.objs.size, upd H s.heap.objs.size (.tup []), I.laid (t' := s.toks) (fun b u e => Heap.get?_push_of_some _ e) (Nat.le_refl _) ?_, rfl, h.2 hne hk0 _ hf⟩
    exact ⟨Nat.zero_le _, [], .nil, ⟨_, Heap.get?_push_size _ rfl, rfl, _, rfl⟩⟩
end
@[simp] def rRepL (G : GH) (Q : DK) (a : List D) (y : D) : Prop := match y with
  | .int k => -(2 ^ 63) ≤ k ∧ k < 2 ^ 63 ∧ a.length * k.toNat ≤ sizeLine ∧ ∀ p, G p = none → Q (.ref p) (updG G p (.lst (List.replicate k.toNat a).flatten))
  | _ => False
@[simp] def rMul : DR2 := fun x y G Q => match x with
  | .int i => (match y with
    | .int j => CMul i j ∧ Q (.int (i * j)) G
    | _ => False)
  | .tup a => (match y with
    | .int k => -(2 ^ 63) ≤ k ∧ k ≤ 1000 ∧ (a.length ≤ 1000 ∨ k ≤ 1) ∧ Q (.tup (List.replicate k.toNat a).flatten) G
    | _ => False)
  | .lst a => rRepL G Q a y
  | .ref p => (match lsOf G (.ref p) with
    | some a => rRepL G Q a y
    | none => False)
  | _ => False
section
variable {X : Cx}
theorem rep_list {pins : List (Addr × Obj)} {s : Shared} {σ : St} {H : Hp} {x y : V} {v u : Value} {Qv : VK} {G : GH} {dx dy : D} {q : DK} {a : List D} (I : Inv X pins σ H s) (rx : RelV x v) (ry : RelV y u) (g : GOk X.K G H) (r1 : RepV X.K G H dx x) (r2 : RepV X.K G H dy y)
    (ha : lsOf G dx = some a) (h : rRepL G q a dy) (k : ∀ v d H' G', Ext G H G' H' → GOk X.K G' H' → RepV X.K G' H' d v → q d G' → Qv v H') : wpAny (model X.prog X.w) X.A (binaryOp .Mult v u) (EP X pins σ Qv) X.xe s := by
  obtain ⟨l, xs, rfl, h1, l1⟩ := ls_at g r1 ha
  cases dy with
  | int j =>
    cases rv_int r2
    obtain ⟨h2, h3, h4, h5⟩ := h
    refine op_rep pins s σ H _ _ v u Qv I rx ry ⟨l, j, xs, rfl, rfl, h1, h2, h3, by rw [l1.length]; exact h4, fun p hp => ?_⟩
    obtain ⟨e, g', rv⟩ := new_lst g hp (l1.rep j.toNat)
    exact k _ _ _ _ e g' rv (h5 p (g.fresh hp))
  | _ => exact h.elim
theorem o_mul : DOp X (binaryOp .Mult) rMul := by
  intro pins s σ H x y v u Q I rx ry ⟨G, dx, dy, q, g, r1, r2, h, k⟩
  cases dx with
  | int i =>
    cases dy with
    | int j =>
      cases rv_int r1; cases rv_int r2
      exact op_mul pins s σ H _ _ v u Q I rx ry ⟨i, j, rfl, rfl, h.1, k _ _ H G (Ext.refl G H) g int_rv h.2⟩
    | _ => exact h.elim
  | tup a =>
    cases dy with
    | int j =>
      obtain ⟨l, xs, rfl, h1, l1⟩ := tp_at r1
      cases rv_int r2
      obtain ⟨h2, h3, h4, h5⟩ := h
      by_cases hc : xs = [] ∨ j ≤ 1
      · cases rx
        obtain ⟨t, rfl⟩ := ry
        refine tup_rep I h1 ⟨h2, by omega⟩ ⟨fun z => ?_, fun hne h0 p hp => ?_⟩ hc
        · refine k _ _ H G (Ext.refl G H) g ?_ h5
          have e : (List.replicate j.toNat a).flatten = a := by
            rcases z with z | z
            · have ea : a = [] := List.eq_nil_of_length_eq_zero (by rw [← l1.length, z]; rfl)
              subst ea
              simp
            · subst z
              simp
          rw [e]
          exact r1
        · have e : (List.replicate j.toNat a).flatten = [] := by
            have : j.toNat = 0 := by omega
            rw [this]; rfl
          rw [e] at h5
          obtain ⟨e1, g1, v1⟩ := new_tup (ds := []) (vs := []) g hp repL_nil
          exact k _ _ _ _ e1 g1 v1 h5
      · simp only [not_or] at hc
        refine op_repT pins s σ H _ _ v u Q I rx ry ⟨l, j, xs, rfl, rfl, h1, hc.1, by omega, h3, by rw [l1.length]; exact h4.resolve_right hc.2, fun p hp => ?_⟩
        obtain ⟨e1, g1, v1⟩ := new_tup g hp (l1.rep j.toNat)
        exact k _ _ _ _ e1 g1 v1 h5
    | _ => exact h.elim
  | lst a => exact rep_list I rx ry g r1 r2 rfl h k
  | ref p =>
    dsimp only [rMul] at h
    cases q1 : lsOf G (.ref p) with
    | none => rw [q1] at h; exact h.elim
    | some a => rw [q1] at h; exact rep_list I rx ry g r1 r2 q1 h k
  | _ => exact h.elim
end

mutual
def pyD : D → PyData
  | .non => .none
  | .bl b => .bool b
  | .int i => .int i
  | .str x => .str x
  | .tup ds => .tuple (pyDs ds)
  | .lst ds => .list (pyDs ds)
  | .byt _ => .none
  | .ref _ => .none
  | .scr _ => .none
  | .fn _ _ _ _ => .none
  | .exh _ _ _ _ _ => .none
def pyDs : List D → List PyData
  | [] => []
  | d :: ds => pyD d :: pyDs ds
end
mutual
/-- data with nothing but None, bools, ints, texts, tuples, frozen lists in it -/
def pureD : D → Bool
  | .non => true
  | .bl _ => true
  | .int _ => true
  | .str x => PyData.strOk x
  | .tup ds => pureDs ds
  | .lst ds => pureDs ds
  | _ => false
def pureDs : List D → Bool
  | [] => true
  | d :: ds => pureD d && pureDs ds
end
mutual
def depD : D → Nat
  | .tup ds => depDs ds + 1
  | .lst ds => depDs ds + 1
  | _ => 0
def depDs : List D → Nat
  | [] => 0
  | d :: ds => max (depD d) (depDs ds)
end
mutual
def eqvD : D → D → Bool
  | .non, .non => true
  | .bl a, .bl b => a == b
  | .bl a, .int j => (if a then 1 else 0) == j
  | .int i, .bl b => i == (if b then 1 else 0)
  | .int i, .int j => i == j
  | .str x, .str y => x == y
  | .tup a, .tup b => eqvDs a b
  | .lst a, .lst b => eqvDs a b
  | _, _ => false
def eqvDs : List D → List D → Bool
  | [], [] => true
  | x :: xs, y :: ys => eqvD x y && eqvDs xs ys
  | _, _ => false
end
mutual
theorem depth_py : ∀ d : D, (pyD d).depth = depD d
  | .non => by simp [pyD, depD, PyData.depth]
  | .bl _ => by simp [pyD, depD, PyData.depth]
  | .int _ => by simp [pyD, depD, PyData.depth]
  | .str _ => by simp [pyD, depD, PyData.depth]
  | .tup ds => by simp [pyD, depD, PyData.depth, depths_py ds]
  | .lst ds => by simp [pyD, depD, PyData.depth, depths_py ds]
  | .byt _ => by simp [pyD, depD, PyData.depth]
  | .ref _ => by simp [pyD, depD, PyData.depth]
  | .scr _ => by simp [pyD, depD, PyData.depth]
  | .fn _ _ _ _ => by simp [pyD, depD, PyData.depth]
  | .exh _ _ _ _ _ => by simp [pyD, depD, PyData.depth]
theorem depths_py : ∀ ds : List D, PyData.depthAll (pyDs ds) = depDs ds
  | [] => by simp [pyDs, depDs, PyData.depthAll]
  | d :: ds => by simp [pyDs, depDs, PyData.depthAll, depth_py d, depths_py ds]
end
mutual
theorem lay_py : ∀ d : D, pureD d = true → (pyD d).canLay0 = true
  | .non, _ => by simp [pyD, PyData.canLay0]
  | .bl _, _ => by simp [pyD, PyData.canLay0]
  | .int _, _ => by simp [pyD, PyData.canLay0]
  | .str x, h => by simpa [pyD, PyData.canLay0, pureD] using h
  | .tup ds, h => by simpa [pyD, PyData.canLay0] using lays_py ds (by simpa [pureD] using h)
  | .lst ds, h => by simpa [pyD, PyData.canLay0] using lays_py ds (by simpa [pureD] using h)
  | .byt _, h => by simp [pureD] at h
  | .ref _, h => by simp [pureD] at h
  | .scr _, h => by simp [pureD] at h
  | .fn _ _ _ _, h => by simp [pureD] at h
  | .exh _ _ _ _ _, h => by simp [pureD] at h
theorem lays_py : ∀ ds : List D, pureDs ds = true → PyData.canLayAll0 (pyDs ds) = true
  | [], _ => by simp [pyDs, PyData.canLayAll0]
  | d :: ds, h => by
    simp only [pureDs, Bool.and_eq_true] at h
    simp [pyDs, PyData.canLayAll0, lay_py d h.1, lays_py ds h.2]
end
mutual
theorem eqv_py : ∀ a b : D, pureD a = true → pureD b = true → PyData.eqv (pyD a) (pyD b) = eqvD a b
  | .tup xs, b, h, k => by
    cases b with
    | tup ys => simpa [pyD, PyData.eqv, eqvD] using eqvs_py xs ys (by simpa [pureD] using h) (by simpa [pureD] using k)
    | byt _ => simp [pureD] at k
    | ref _ => simp [pureD] at k
    | scr _ => simp [pureD] at k
    | fn _ _ _ _ => simp [pureD] at k
    | exh _ _ _ _ _ => simp [pureD] at k
    | _ => simp [pyD, PyData.eqv, eqvD]
  | .lst xs, b, h, k => by
    cases b with
    | lst ys => simpa [pyD, PyData.eqv, eqvD] using eqvs_py xs ys (by simpa [pureD] using h) (by simpa [pureD] using k)
    | byt _ => simp [pureD] at k
    | ref _ => simp [pureD] at k
    | scr _ => simp [pureD] at k
    | fn _ _ _ _ => simp [pureD] at k
    | exh _ _ _ _ _ => simp [pureD] at k
    | _ => simp [pyD, PyData.eqv, eqvD]
  | .non, b, h, k => by cases b <;> first | (simp [pureD] at k; done) | simp [pyD, PyData.eqv, eqvD]
  | .bl _, b, h, k => by cases b <;> first | (simp [pureD] at k; done) | simp [pyD, PyData.eqv, eqvD]
  | .int _, b, h, k => by cases b <;> first | (simp [pureD] at k; done) | simp [pyD, PyData.eqv, eqvD]
  | .str _, b, h, k => by
    cases b with
    | str _ => simp [pyD, PyData.eqv, eqvD]
    | byt _ => simp [pureD] at k
    | ref _ => simp [pureD] at k
    | scr _ => simp [pureD] at k
    | fn _ _ _ _ => simp [pureD] at k
    | exh _ _ _ _ _ => simp [pureD] at k
    | _ => simp [pyD, PyData.eqv, eqvD]
  | .byt _, _, h, _ => by simp [pureD] at h
  | .ref _, _, h, _ => by simp [pureD] at h
  | .scr _, _, h, _ => by simp [pureD] at h
  | .fn _ _ _ _, _, h, _ => by simp [pureD] at h
  | .exh _ _ _ _ _, _, h, _ => by simp [pureD] at h
theorem eqvs_py : ∀ a b : List D, pureDs a = true → pureDs b = true → PyData.eqvAll (pyDs a) (pyDs b) = eqvDs a b
  | [], [], _, _ => by simp [pyDs, PyData.eqvAll, eqvDs]
  | [], _ :: _, _, _ => by simp [pyDs, PyData.eqvAll, eqvDs]
  | _ :: _, [], _, _ => by simp [pyDs, PyData.eqvAll, eqvDs]
  | x :: xs, y :: ys, h, k => by
    simp only [pureDs, Bool.and_eq_true] at h k
    simp [pyDs, PyData.eqvAll, eqvDs, eqv_py x y h.1 k.1, eqvs_py xs ys h.2 k.2]
end
mutual
theorem dp_of {K : PySem.W.Frag} {G : GH} {H : Hp} : ∀ {d : D} {v : V}, RepV K G H d v → pureD d = true → Dp K H v (pyD d)
  | .non, v, h, _ => by cases rv_non h; simp only [pyD]; exact .non
  | .bl b, v, h, _ => by cases rv_bl h; simp only [pyD]; exact .bl b
  | .int i, v, h, _ => by cases rv_int h; simp only [pyD]; exact .int i
  | .str x, v, h, _ => by cases rv_str h; simp only [pyD]; exact .str x
  | .tup ds, v, h, k => by
    obtain ⟨a, xs, rfl, t, rl⟩ := tp_at h
    simp only [pyD]
    exact .tup t (dps_of rl (by simpa [pureD] using k))
  | .lst ds, v, h, k => by
    unfold RepV at h
    obtain ⟨a, xs, rfl, t, rl⟩ := h
    simp only [pyD]
    exact .lst t.sq (dps_of rl (by simpa [pureD] using k))
  | .byt _, _, _, k => by simp [pureD] at k
  | .ref _, _, _, k => by simp [pureD] at k
  | .scr _, _, _, k => by simp [pureD] at k
  | .fn _ _ _ _, _, _, k => by simp [pureD] at k
  | .exh _ _ _ _ _, _, _, k => by simp [pureD] at k
theorem dps_of {K : PySem.W.Frag} {G : GH} {H : Hp} : ∀ {ds : List D} {vs : List V}, RepL K G H ds vs → pureDs ds = true → DpAll K H vs (pyDs ds)
  | [], vs, h, _ => by unfold RepL at h; subst h; simp only [pyDs]; exact .nil
  | d :: ds, vs, h, k => by
    unfold RepL at h
    obtain ⟨x, r, rfl, h1, h2⟩ := h
    simp only [pureDs, Bool.and_eq_true] at k
    simp only [pyDs]
    exact .cons (dp_of h1 k.1) (dps_of h2 k.2)
end
@[simp] def vw (G : GH) : D → D
  | .ref a => (match G a with
    | some (.lst ds) => .lst ds
    | _ => .ref a)
  | d => d
theorem vw_dp {K : PySem.W.Frag} {G : GH} {H : Hp} {d : D} {v : V} (g : GOk K G H) (r : RepV K G H d v) (h : pureD (vw G d) = true) : Dp K H v (pyD (vw G d)) := by
  cases d with
  | ref a =>
    cases rv_ref r
    dsimp only [vw] at h ⊢
    cases q : G a with
    | none => rw [q] at h; simp [pureD] at h
    | some o =>
      rw [q] at h
      cases o with
      | lst ds =>
        obtain ⟨xs, h1, rl⟩ := g a _ q
        simp only [pyD]
        exact .lst (SqL.of h1) (dps_of rl (by simpa [pureD] using h))
      | dct _ => simp [pureD] at h
      | raw _ => simp [pureD] at h
      | ins _ _ => simp [pureD] at h
      | dtp _ => simp [pureD] at h
      | tab _ => simp [pureD] at h
      | slt _ _ => simp [pureD] at h
  | _ => exact dp_of r h
def okD (d : D) : Prop := pureD d = true ∧ depD d ≤ 64
theorem okD.shaped {d : D} (h : okD d) : SeqAt.shaped (pyD d) = true := by
  unfold SeqAt.shaped
  rw [Bool.and_eq_true]
  exact ⟨lay_py d h.1, decide_eq_true (by rw [depth_py]; exact h.2)⟩
@[simp] def rCmpG (f : Bool → Bool) (a b : D) (G : GH) (Q : DK) : Prop := okD a ∧ okD b ∧ Q (.bl (f (eqvD a b))) G
@[simp] def rCmp (f : Bool → Bool) : DR2 := fun x y G Q => match vw G x with
  | .str a => (match vw G y with
    | .str b => Q (.bl (f (decide (a = b)))) G
    | b => rCmpG f (.str a) b G Q)
  | .int a => (match vw G y with
    | .int b => Q (.bl (f (decide (a = b)))) G
    | b => rCmpG f (.int a) b G Q)
  | a => rCmpG f a (vw G y) G Q
abbrev rEqv : DR2 := rCmp id
abbrev rNev : DR2 := rCmp not
section
variable {X : Cx}
theorem rCmp_gen {f : Bool → Bool} {x y : D} {G : GH} {Q : DK} (h : rCmp f x y G Q) : (∃ a b, x = .str a ∧ y = .str b ∧ Q (.bl (f (decide (a = b)))) G) ∨ (∃ a b, x = .int a ∧ y = .int b ∧ Q (.bl (f (decide (a = b)))) G) ∨ rCmpG f (vw G x) (vw G y) G Q := by
  have hv : ∀ (d : D) (s : Str), vw G d = .str s → d = .str s := fun d s e => by
    cases d with
    | ref a => dsimp only [vw] at e; split at e <;> cases e
    | _ => exact e
  have hi : ∀ (d : D) (s : Int), vw G d = .int s → d = .int s := fun d s e => by
    cases d with
    | ref a => dsimp only [vw] at e; split at e <;> cases e
    | _ => exact e
  dsimp only [rCmp] at h
  cases e1 : vw G x with
  | str a =>
    rw [e1] at h
    cases e2 : vw G y with
    | str b => rw [e2] at h; exact .inl ⟨a, b, hv _ _ e1, hv _ _ e2, h⟩
    | _ => rw [e2] at h; exact .inr (.inr h)
  | int a =>
    rw [e1] at h
    cases e2 : vw G y with
    | int b => rw [e2] at h; exact .inr (.inl ⟨a, b, hi _ _ e1, hi _ _ e2, h⟩)
    | _ => rw [e2] at h; exact .inr (.inr h)
  | _ => rw [e1] at h; exact .inr (.inr h)
theorem o_eq (hu : X.A.units + 64 < cLine) : DOp X (compareOp .Eq) rEqv := by
  intro pins s σ H x y v u Q I rx ry ⟨G, dx, dy, q, g, r1, r2, h, k⟩
  rcases rCmp_gen h with ⟨a, b, rfl, rfl, h⟩ | ⟨a, b, rfl, rfl, h⟩ | ⟨h1, h2, h3⟩
  · cases rv_str r1; cases rv_str r2
    refine op_eq pins s σ H _ _ v u Q I rx ry ⟨rfl, k _ _ H G (Ext.refl G H) g ?_ h⟩
    rw [show decide (V.str a = V.str b) = decide (a = b) by simp]
    exact bl_rv
  · cases rv_int r1; cases rv_int r2
    refine op_eq pins s σ H _ _ v u Q I rx ry ⟨rfl, k _ _ H G (Ext.refl G H) g ?_ h⟩
    rw [show decide (V.int a = V.int b) = decide (a = b) by simp]
    exact bl_rv
  · refine op_eqD hu pins s σ H _ _ v u Q I rx ry ⟨_, _, vw_dp g r1 h1.1, vw_dp g r2 h2.1, h1.shaped, h2.shaped, k _ _ H G (Ext.refl G H) g ?_ h3⟩
    rw [eqv_py _ _ h1.1 h2.1]
    exact bl_rv
theorem o_ne (hu : X.A.units + 64 < cLine) : DOp X (compareOp .NotEq) rNev := by
  intro pins s σ H x y v u Q I rx ry ⟨G, dx, dy, q, g, r1, r2, h, k⟩
  rcases rCmp_gen h with ⟨a, b, rfl, rfl, h⟩ | ⟨a, b, rfl, rfl, h⟩ | ⟨h1, h2, h3⟩
  · cases rv_str r1; cases rv_str r2
    refine op_ne pins s σ H _ _ v u Q I rx ry ⟨rfl, k _ _ H G (Ext.refl G H) g ?_ h⟩
    rw [show decide (V.str a = V.str b) = decide (a = b) by simp]
    exact bl_rv
  · cases rv_int r1; cases rv_int r2
    refine op_ne pins s σ H _ _ v u Q I rx ry ⟨rfl, k _ _ H G (Ext.refl G H) g ?_ h⟩
    rw [show decide (V.int a = V.int b) = decide (a = b) by simp]
    exact bl_rv
  · refine op_neD hu pins s σ H _ _ v u Q I rx ry ⟨_, _, vw_dp g r1 h1.1, vw_dp g r2 h2.1, h1.shaped, h2.shaped, k _ _ H G (Ext.refl G H) g ?_ h3⟩
    rw [eqv_py _ _ h1.1 h2.1]
    exact bl_rv
end
end Dl

namespace Dl
open PySem L2

def flatD : D → Bool
  | .non => true
  | .bl _ => true
  | .int _ => true
  | .str _ => true
  | _ => false
theorem flat_rep {K : PySem.W.Frag} {G : GH} {H : Hp} {d : D} {v : V} (h : flatD d = true) (r : RepV K G H d v) : flatV v = true ∧ ∀ (e : D) (w : V), flatD e = true → RepV K G H e w → eqV w v = eqvD e d := by
  have key : ∀ (e : D) (w : V), flatD e = true → RepV K G H e w → (e = .non ∧ w = .non) ∨ (∃ b, e = .bl b ∧ w = .bl b) ∨ (∃ i, e = .int i ∧ w = .int i) ∨ ∃ x, e = .str x ∧ w = .str x := by
    intro e w he re
    cases e with
    | non => exact .inl ⟨rfl, rv_non re⟩
    | bl b => exact .inr (.inl ⟨b, rfl, rv_bl re⟩)
    | int b => exact .inr (.inr (.inl ⟨b, rfl, rv_int re⟩))
    | str b => exact .inr (.inr (.inr ⟨b, rfl, rv_str re⟩))
    | _ => simp [flatD] at he
  rcases key d v h r with ⟨rfl, rfl⟩ | ⟨b, rfl, rfl⟩ | ⟨b, rfl, rfl⟩ | ⟨b, rfl, rfl⟩ <;> refine ⟨rfl, fun e w he re => ?_⟩ <;>
    rcases key e w he re with ⟨rfl, rfl⟩ | ⟨c, rfl, rfl⟩ | ⟨c, rfl, rfl⟩ | ⟨c, rfl, rfl⟩ <;> simp [eqV, eqvD]
def inD (x : D) (ds : List D) : Bool := ds.any fun y => eqvD y x
@[simp] def rInn (f : Bool → Bool) : DR2 := fun x y G Q => match sqOf G y with
  | some ds => flatD x = true ∧ ds.all flatD = true ∧ Q (.bl (f (inD x ds))) G
  | none => False
theorem flats_rep {K : PySem.W.Frag} {G : GH} {H : Hp} {d : D} {v : V} (h : flatD d = true) (r : RepV K G H d v) : ∀ {ds : List D} {xs : List V}, RepL K G H ds xs → ds.all flatD = true → xs.all flatV = true ∧ inV v xs = inD d ds
  | [], xs, rl, _ => by unfold RepL at rl; subst rl; exact ⟨rfl, rfl⟩
  | e :: ds, xs, rl, ha => by
    unfold RepL at rl
    obtain ⟨x, t, rfl, h1, h2⟩ := rl
    simp only [List.all_cons, Bool.and_eq_true] at ha
    obtain ⟨i1, i2⟩ := flats_rep h r h2 ha.2
    obtain ⟨f1, _⟩ := flat_rep ha.1 h1
    have f2 := (flat_rep h r).2 e x ha.1 h1
    refine ⟨by simp [f1, i1], ?_⟩
    unfold inV inD at i2 ⊢
    simp only [List.any_cons]
    rw [f2, i2]
section
variable {X : Cx}
theorem o_in : DOp X (compareOp .In) (rInn id) := by
  intro pins s σ H x y v u Q I rx ry ⟨G, dx, dy, q, g, r1, r2, h, k⟩
  dsimp only [rInn] at h
  cases e : sqOf G dy with
  | none => rw [e] at h; exact h.elim
  | some ds =>
    rw [e] at h
    obtain ⟨a, xs, rfl, hs, rl⟩ := sq_at g r2 e
    obtain ⟨h1, h2, h3⟩ := h
    obtain ⟨f1, f2⟩ := flats_rep h1 r1 rl h2
    refine op_in_seq pins s σ H _ _ v u Q I rx ry ⟨a, xs, rfl, hs, (flat_rep h1 r1).1, f1, k _ _ H G (Ext.refl G H) g ?_ h3⟩
    rw [f2]
    exact bl_rv
theorem o_notin : DOp X (compareOp .NotIn) (rInn not) := by
  intro pins s σ H x y v u Q I rx ry ⟨G, dx, dy, q, g, r1, r2, h, k⟩
  dsimp only [rInn] at h
  cases e : sqOf G dy with
  | none => rw [e] at h; exact h.elim
  | some ds =>
    rw [e] at h
    obtain ⟨a, xs, rfl, hs, rl⟩ := sq_at g r2 e
    obtain ⟨h1, h2, h3⟩ := h
    obtain ⟨f1, f2⟩ := flats_rep h1 r1 rl h2
    refine op_notIn_seq pins s σ H _ _ v u Q I rx ry ⟨a, xs, rfl, hs, (flat_rep h1 r1).1, f1, k _ _ H G (Ext.refl G H) g ?_ h3⟩
    rw [f2]
    exact bl_rv
end
@[simp] def isNonD : D → Bool
  | .non => true
  | _ => false
@[simp] def rIsN (f : Bool → Bool) : DR2 := fun x y G Q => match y with
  | .non => Q (.bl (f (isNonD x))) G
  | _ => False
section
variable {X : Cx}
end

theorem atI_rep {K : PySem.W.Frag} {G : GH} {H : Hp} {ds : List D} {xs : List V} {i : Int} {d : D} (rl : RepL K G H ds xs) (h : atI ds i = some d) : ∃ v, atI xs i = some v ∧ RepV K G H d v := by
  unfold atI at h ⊢
  rw [rl.length]
  cases e : ixN ds.length i with
  | none => rw [e] at h; cases h
  | some j =>
    rw [e] at h
    exact rl.get h
@[simp] def rIx : DR2 := fun x y G Q => match y with
  | .int i => (match sqOf G x with
    | some ds => (match atI ds i with
      | some d => Q d G
      | none => False)
    | none => False)
  | _ => False
section
variable {X : Cx}
theorem x_ix : IxR X (upR X.K rIx) := by
  intro ve sx pins s σ H x y v u Q I rx ry ⟨G, dx, dy, q, g, r1, r2, h, k⟩ hsub
  cases dy with
  | int i =>
    cases rv_int r2
    dsimp only [rIx] at h
    cases e : sqOf G dx with
    | none => rw [e] at h; exact h.elim
    | some ds =>
      rw [e] at h
      dsimp only at h
      obtain ⟨a, xs, rfl, hs, rl⟩ := sq_at g r1 e
      cases e2 : atI ds i with
      | none => rw [e2] at h; exact h.elim
      | some d =>
        rw [e2] at h
        obtain ⟨w, hw, rw'⟩ := atI_rep rl e2
        refine (ix_list.or ix_tup) ve sx pins s σ H _ _ v u Q I rx ry ?_ hsub
        rcases hs with hs | hs
        · exact .inl ⟨a, xs, i, w, rfl, rfl, hs, hw, k _ _ H G (Ext.refl G H) g rw' h⟩
        · exact .inr ⟨a, xs, i, w, rfl, rfl, hs, hw, k _ _ H G (Ext.refl G H) g rw' h⟩
  | _ => exact h.elim
theorem de_ix {a b : Expr} {ta tb : DTE} {pos : Pos} (ha : DE X a ta) (hb : DE X b tb) (hs : PlainIx b := by exact fun _ _ => rfl) : DE X (.Subscript a b pos) (dOp rIx ta tb) := (pe_ix x_ix ha hb hs).imp fun _ _ _ h => up_op h

end
@[simp] def keyD : D → Option Key
  | .int i => some (.inl i)
  | .str x => some (.inr x)
  | _ => none
def getK : List (Key × D) → Key → Option D
  | [], _ => none
  | p :: r, k => if p.1 = k then some p.2 else getK r k
def putD (kvs : List (Key × D)) (k : Key) (d : D) : List (Key × D) :=
  if (kvs.any fun kv => decide (kv.1 = k)) = true then kvs.map (fun kv => if kv.1 = k then (kv.1, d) else kv) else kvs ++ [(k, d)]
theorem key_rep {K : PySem.W.Frag} {G : GH} {H : Hp} {d : D} {v : V} {k : Key} (r : RepV K G H d v) (h : keyD d = some k) : v = kV k := by
  cases d with
  | int i => simp only [keyD, Option.some.injEq] at h; subst h; exact rv_int r
  | str i => simp only [keyD, Option.some.injEq] at h; subst h; exact rv_str r
  | _ => simp [keyD] at h
theorem getK_rep {K : PySem.W.Frag} {G : GH} {H : Hp} {k : Key} : ∀ {kvs : List (Key × D)} {ws : List (Key × V)}, ws.map (·.1) = kvs.map (·.1) → RepL K G H (kvs.map (·.2)) (ws.map (·.2)) → match getK kvs k with
    | some d => ∃ v, valV ws k = some v ∧ RepV K G H d v
    | none => valV ws k = none
  | [], [], _, _ => rfl
  | [], _ :: _, e, _ => by simp at e
  | _ :: _, [], e, _ => by simp at e
  | p :: kvs, q :: ws, e, rl => by
    simp only [List.map_cons, List.cons.injEq] at e
    simp only [List.map_cons] at rl
    unfold RepL at rl
    obtain ⟨x, r, e2, h1, h2⟩ := rl
    simp only [List.cons.injEq] at e2
    obtain ⟨e3, e4⟩ := e2
    subst e3
    rw [← e4] at h2
    have ih := getK_rep (k := k) e.2 h2
    unfold getK
    by_cases hk : p.1 = k
    · rw [if_pos hk]
      exact ⟨q.2, valV_pos (e.1.trans hk), h1⟩
    · rw [if_neg hk]
      cases q2 : getK kvs k with
      | none => rw [q2] at ih; exact (valV_neg (fun z => hk (e.1.symm.trans z))).trans ih
      | some d =>
        rw [q2] at ih
        obtain ⟨v, i1, i2⟩ := ih
        exact ⟨v, (valV_neg (fun z => hk (e.1.symm.trans z))).trans i1, i2⟩
theorem putD_rep {K : PySem.W.Frag} {G : GH} {H : Hp} {k : Key} {d : D} {v : V} (rv : RepV K G H d v) {kvs : List (Key × D)} {ws : List (Key × V)} (e : ws.map (·.1) = kvs.map (·.1)) (rl : RepL K G H (kvs.map (·.2)) (ws.map (·.2))) :
    (putK ws k v).map (·.1) = (putD kvs k d).map (·.1) ∧ RepL K G H ((putD kvs k d).map (·.2)) ((putK ws k v).map (·.2)) := by
  have hany : (ws.any fun kv => decide (kv.1 = k)) = kvs.any fun kv => decide (kv.1 = k) := by
    have : ∀ (l : List (Key × V)), (l.any fun kv => decide (kv.1 = k)) = (l.map (·.1)).any fun z => decide (z = k) := fun l => by simp [List.any_map, Function.comp_def]
    have h2 : ∀ (l : List (Key × D)), (l.any fun kv => decide (kv.1 = k)) = (l.map (·.1)).any fun z => decide (z = k) := fun l => by simp [List.any_map, Function.comp_def]
    rw [this, h2, e]
  unfold putK putD
  rw [hany]
  by_cases ha : (kvs.any fun kv => decide (kv.1 = k)) = true
  · rw [if_pos ha, if_pos ha]
    clear hany ha
    induction kvs generalizing ws with
    | nil =>
      cases ws with
      | nil => exact ⟨rfl, repL_nil⟩
      | cons q ws => simp at e
    | cons p kvs ih =>
      cases ws with
      | nil => simp at e
      | cons q ws =>
        simp only [List.map_cons, List.cons.injEq] at e
        simp only [List.map_cons] at rl
        unfold RepL at rl
        obtain ⟨x, r, e2, h1, h2⟩ := rl
        simp only [List.cons.injEq] at e2
        obtain ⟨e3, e4⟩ := e2
        subst e3
        rw [← e4] at h2
        obtain ⟨i1, i2⟩ := ih e.2 h2
        simp only [List.map_cons]
        by_cases hk : p.1 = k
        · rw [if_pos hk, if_pos (e.1.trans hk)]
          exact ⟨by rw [i1, e.1], repL_cons rv i2⟩
        · rw [if_neg hk, if_neg (fun z => hk (e.1.symm.trans z))]
          exact ⟨by rw [i1, e.1], repL_cons h1 i2⟩
  · rw [if_neg ha, if_neg ha]
    simp only [List.map_append, List.map_cons, List.map_nil]
    exact ⟨by rw [e], rl.append (repL_one rv)⟩
@[simp] def dctP (G : GH) (x : D) (P : Addr → List (Key × D) → Prop) : Prop := match x with
  | .ref a => (match G a with
    | some (.dct kvs) => P a kvs
    | _ => False)
  | _ => False
@[simp] def keyP (y : D) (P : Key → Prop) : Prop := match keyD y with
  | some k => P k
  | none => False
@[simp] def dDGet (td ty : DTE) : DTE := fun ρ G Q => td ρ G fun x G1 => ty ρ G1 fun y G2 => dctP G2 x fun _ kvs => keyP y fun k => match getK kvs k with
  | some d => Q d G2
  | none => False
@[simp] def sDct : DSet := fun o i d G Q => dctP G o fun a kvs => keyP i fun k => kvs.length < sizeLine ∧ Q (updG G a (.dct (putD kvs k d)))
theorem keyP_of {y : D} {P : Key → Prop} (h : keyP y P) : ∃ k, keyD y = some k ∧ P k := by
  unfold keyP at h
  split at h
  · exact ⟨_, by assumption, h⟩
  · exact h.elim
theorem dct_of {K : PySem.W.Frag} {G : GH} {H : Hp} {x : D} {v : V} {P : Addr → List (Key × D) → Prop} (g : GOk K G H) (r : RepV K G H x v) (h : dctP G x P) :
    ∃ a kvs ws, x = .ref a ∧ v = .ref a ∧ G a = some (.dct kvs) ∧ P a kvs ∧ H a = some (.dK ws) ∧ ws.map (·.1) = kvs.map (·.1) ∧ RepL K G H (kvs.map (·.2)) (ws.map (·.2)) := by
  cases x with
  | ref a =>
    dsimp only [dctP] at h
    cases q : G a with
    | none => rw [q] at h; exact h.elim
    | some o =>
      rw [q] at h
      cases o with
      | dct kvs =>
        obtain ⟨ws, h1, h2, h3⟩ := g a _ q
        exact ⟨a, kvs, ws, rfl, rv_ref r, q, h, h1, h2, h3⟩
      | _ => exact h.elim
  | _ => exact h.elim
section
variable {X : Cx}
theorem de_dget {o i : Expr} {td ty : DTE} {pos : Pos} (hu : X.A.units + 1 < cLine) (ho : DE X o td) (hi : DE X i ty) (hs : NoSl i := by exact fun _ _ => rfl) : DE X (.Subscript o i pos) (dDGet td ty) := by
  refine (pe_dget hu ho hi hs).imp fun σ H Q ⟨ρ, G, q, r, h, k⟩ => ?_
  refine ⟨ρ, G, _, r, h, fun x dx H1 G1 e1 r1 v1 h1 => ?_⟩
  refine ⟨ρ, G1, _, r1, h1, fun y dy H2 G2 e2 r2 v2 h2 => ?_⟩
  obtain ⟨a, kvs, ws, rfl, rfl, hg, h2, w1, w2, w3⟩ := dct_of r2.gok (v1.ext e2) h2
  obtain ⟨kk, hk, h2⟩ := keyP_of h2
  cases key_rep v2 hk
  have gr := getK_rep (k := kk) w2 w3
  cases hd : getK kvs kk with
  | none => rw [hd] at h2; exact h2.elim
  | some d =>
    rw [hd] at h2 gr
    obtain ⟨w, e3, rw'⟩ := gr
    refine ⟨a, w, rfl, ?_, k w d H2 G2 (e1.trans e2) r2 rw' h2⟩
    rw [← e3]
    exact DGet.k w1
theorem set_dct (hu : X.A.units + 1 < cLine) : PSet X (upSet X.K sDct) := by
  intro pins s σ H o i v ov iv u Q I ro ri rv ⟨G, dO, di, d, q, g, r1, r2, r3, h, k⟩
  obtain ⟨a, kvs, ws, rfl, rfl, hg, h2, w1, w2, w3⟩ := dct_of g r1 h
  obtain ⟨kk, hk, h2⟩ := keyP_of h2
  cases key_rep r2 hk
  obtain rfl : ov = Value.ref a := ro
  have hl : ws.length = kvs.length := by simpa using congrArg List.length w2
  have e : Ext G H (updG G a (.dct (putD kvs kk d))) (upd H a (.dK (putK ws kk v))) := Ext.write hg
  obtain ⟨p1, p2⟩ := putD_rep (k := kk) r3 w2 w3
  refine d_setItem hu I (DPut.k (k := kk) w1 (by rw [hl]; exact h2.1)) ri rv fun s4 I4 => ⟨_, I4, ?_⟩
  exact k _ _ e (g.put e ⟨_, upd_same, p1, p2.ext e⟩) h2.2
end
@[simp] def lstP (G : GH) (x : D) (P : Addr → List D → Prop) : Prop := match x with
  | .ref a => (match G a with
    | some (.lst ds) => P a ds
    | _ => False)
  | _ => False
@[simp] def sLst : DSet := fun o i d G Q => lstP G o fun a ds => match i with
  | .int k => (match ixN ds.length k with
    | some j => Q (updG G a (.lst (ds.set j d)))
    | none => False)
  | _ => False
theorem lst_of {K : PySem.W.Frag} {G : GH} {H : Hp} {x : D} {v : V} {P : Addr → List D → Prop} (g : GOk K G H) (r : RepV K G H x v) (h : lstP G x P) : ∃ a ds xs, x = .ref a ∧ v = .ref a ∧ G a = some (.lst ds) ∧ P a ds ∧ H a = some (.lst xs) ∧ RepL K G H ds xs := by
  cases x with
  | ref a =>
    dsimp only [lstP] at h
    cases q : G a with
    | none => rw [q] at h; exact h.elim
    | some o =>
      rw [q] at h
      cases o with
      | lst ds =>
        obtain ⟨ws, h1, h2⟩ := g a _ q
        exact ⟨a, ds, ws, rfl, rv_ref r, q, h, h1, h2⟩
      | _ => exact h.elim
  | _ => exact h.elim
section
variable {X : Cx}
theorem set_lst : PSet X (upSet X.K sLst) := by
  intro pins s σ H o i v ov iv u Q I ro ri rv ⟨G, dO, di, d, q, g, r1, r2, r3, h, k⟩
  obtain ⟨a, ds, xs, rfl, rfl, hg, h2, w1, w2⟩ := lst_of g r1 h
  cases di with
  | int j =>
    cases rv_int r2
    dsimp only at h2
    cases e : ixN ds.length j with
    | none => rw [e] at h2; exact h2.elim
    | some n =>
      rw [e] at h2
      refine set_list pins s σ H _ _ _ ov iv u Q I ro ri rv ⟨a, xs, j, n, rfl, rfl, w1, by rw [w2.length]; exact e, ?_⟩
      obtain ⟨e1, g1⟩ := put_lst g hg (w2.set r3 n)
      exact k _ _ e1 g1 h2
  | _ => exact h2.elim

end
abbrev DTO := DSt → GH → (Option Int → GH → Prop) → Prop
def upO (K : PySem.W.Frag) (t : DTO) : TO := fun σ H Qv => ∃ ρ G Q, DRel K σ H ρ G ∧ t ρ G Q ∧ ∀ o H' G', Ext G H G' H' → DRel K σ H' ρ G' → Q o G' → Qv o H'
abbrev DO' (X : Cx) (e : Option Expr) (t : DTO) : Prop := PO X e (upO X.K t)
@[simp] def dNoP : DTO := fun _ G Q => Q none G
@[simp] def dP (t : DTE) : DTO := fun ρ G Q => t ρ G fun d G1 => match d with
  | .int i => Q (some i) G1
  | _ => False
def cutD (xs : List D) (lo hi : Option Int) : List D := (xs.drop (HT.sIx xs.length 0 lo)).take (HT.sIx xs.length xs.length hi - HT.sIx xs.length 0 lo)
theorem cut_rep {K : PySem.W.Frag} {G : GH} {H : Hp} {ds : List D} {xs : List V} (rl : RepL K G H ds xs) (lo hi : Option Int) : RepL K G H (cutD ds lo hi) (cutV xs lo hi) := by
  unfold cutD cutV
  rw [rl.length]
  exact (rl.drop _).take _
@[simp] def rSl : D → Option Int → Option Int → GH → DK → Prop := fun x lo hi G Q => match x with
  | .tup ds => Q (.tup (cutD ds lo hi)) G
  | .scr ns => ∀ p, G p = none → Q (.ref p) (updG G p (.lst (cutD (ns.map D.int) lo hi)))
  | .lst ds => ∀ p, G p = none → Q (.ref p) (updG G p (.lst (cutD ds lo hi)))
  | .ref a => (match G a with
    | some (.lst ds) => ∀ p, G p = none → Q (.ref p) (updG G p (.lst (cutD ds lo hi)))
    | _ => False)
  | _ => False
def upSl (K : PySem.W.Frag) (r : D → Option Int → Option Int → GH → DK → Prop) : V → Option Int → Option Int → Hp → VK → Prop := fun x lo hi H Qv => ∃ (G : GH) (d : D) (Q : DK), GOk K G H ∧ RepV K G H d x ∧ r d lo hi G Q ∧ ∀ v d H' G', Ext G H G' H' → GOk K G' H' → RepV K G' H' d v → Q d G' → Qv v H'
@[simp] def dSl (te : DTE) (tl th : DTO) : DTE := fun ρ G Q => te ρ G fun x G1 => tl ρ G1 fun l G2 => th ρ G2 fun u G3 => rSl x l u G3 Q
section
variable {X : Cx}
theorem PO.imp {e : Option Expr} {t t' : TO} (h : PO X e t) (i : ∀ σ H Q, t' σ H Q → t σ H Q) : PO X e t' := ⟨fun pins s σ H Q I q => h.run pins s σ H Q I (i σ H Q q)⟩
theorem do_none : DO' X none dNoP := PO.imp po_none fun σ H Q ⟨ρ, G, q, r, h, k⟩ => k none H G (Ext.refl G H) r h
theorem do_some {e : Expr} {te : DTE} (h : DE X e te) : DO' X (some e) (dP te) := PO.imp (po_some h) fun σ H Q ⟨ρ, G, q, r, h, k⟩ => by
  refine ⟨ρ, G, _, r, h, fun x dx H1 G1 e1 r1 v1 h1 => ?_⟩
  cases dx with
  | int i => cases rv_int v1; exact ⟨i, rfl, k (some i) H1 G1 e1 r1 h1⟩
  | _ => exact h1.elim
theorem sl_all : SlR X (upSl X.K rSl) := by
  intro pins s σ H x v vl vu lo hi sl Q I rx hs pl pu ⟨G, d, q, g, r, h, k⟩
  have lcase : ∀ (a : Addr) (xs : List V) (ds : List D), x = .ref a → SqL X.K H a xs → RepL X.K G H ds xs → (∀ p, G p = none → q (.ref p) (updG G p (.lst (cutD ds lo hi)))) →
      ∃ T id, typeLookup (.type T) "__getitem__" = pure (some (.builtin id)) ∧ s.TypeIs v T ∧ wpAny (model X.prog X.w) X.A (getItem v (.ref sl)) (EP X pins σ Q) X.xe s := by
    intro a xs ds e hq rl hk
    refine sl_list pins s σ H x v vl vu lo hi sl Q I rx hs pl pu ⟨a, xs, e, hq, fun p hp => ?_⟩
    obtain ⟨e1, g1, v1⟩ := new_lst g hp (cut_rep rl lo hi)
    exact k _ _ _ _ e1 g1 v1 (hk p (g.fresh hp))
  cases d with
  | tup ds =>
    obtain ⟨a, xs, e, t, rl⟩ := tp_at r
    refine sl_tupA pins s σ H x v vl vu lo hi sl Q I rx hs pl pu ⟨a, xs, e, t, fun z => ?_, fun z p hp => ?_⟩
    · have e2 : cutD ds lo hi = ds := by
        unfold cutD
        rw [← rl.length, z.1, z.2]
        simp [rl.length]
      subst e
      refine k _ _ H G (Ext.refl G H) g ?_ h
      rw [e2]
      exact r
    · obtain ⟨e1, g1, v1⟩ := new_tup g hp (cut_rep rl lo hi)
      exact k _ _ _ _ e1 g1 v1 h
  | scr ns =>
    unfold RepV at r
    obtain ⟨a, e, t⟩ := r
    exact lcase a _ _ e t.sq repL_of_ints h
  | lst ds =>
    unfold RepV at r
    obtain ⟨a, xs, e, t, rl⟩ := r
    exact lcase a xs ds e t.sq rl h
  | ref a =>
    cases rv_ref r
    dsimp only [rSl] at h
    cases hg : G a with
    | none => rw [hg] at h; exact h.elim
    | some o =>
      rw [hg] at h
      cases o with
      | lst ds =>
        obtain ⟨xs, h1, h2⟩ := g a _ hg
        exact lcase a xs ds rfl (SqL.of h1) h2 h
      | _ => exact h.elim
  | _ => exact h.elim
theorem de_slice {e : Expr} {lo hi : Option Expr} {te : DTE} {tl th : DTO} {p2 pos : Pos} (he : DE X e te) (hl : DO' X lo tl) (hh : DO' X hi th) : DE X (.Subscript e (.Slice lo hi none p2) pos) (dSl te tl th) := by
  refine (pe_slice sl_all he hl hh).imp fun σ H Q ⟨ρ, G, q, r, h, k⟩ => ?_
  refine ⟨ρ, G, _, r, h, fun x dx H1 G1 e1 r1 v1 h1 => ?_⟩
  refine ⟨ρ, G1, _, r1, h1, fun l H2 G2 e2 r2 h2 => ?_⟩
  refine ⟨ρ, G2, _, r2, h2, fun u H3 G3 e3 r3 h3 => ?_⟩
  exact ⟨G3, dx, q, r3.gok, v1.ext (e2.trans e3), h3, fun v d H' G' e4 g4 v4 h4 => k v d H' G' (((e1.trans e2).trans e3).trans e4) (r3.ext e4 g4) v4 h4⟩
end
end Dl

namespace Dl
open PySem L2

abbrev DRC := List D → GH → DK → Prop
def upC (K : PySem.W.Frag) (r : DRC) : List V → Hp → VK → Prop := fun xs H Qv => ∃ (G : GH) (ds : List D) (Q : DK), GOk K G H ∧ RepL K G H ds xs ∧ r ds G Q ∧ ∀ v d H' G', Ext G H G' H' → GOk K G' H' → RepV K G' H' d v → Q d G' → Qv v H'
abbrev DCall (X : Cx) (f : Value) (r : DRC) : Prop := CallR X f (upC X.K r)
@[simp] def dCB (r : DRC) (t : DTA) : DTE := fun ρ G Q => t ρ G fun ds G1 => r ds G1 Q
theorem up_cb {K : PySem.W.Frag} {r : DRC} {t : DTA} {σ : St} {H : Hp} {Q : VK} (h : up K (dCB r t) σ H Q) : tCB (upC K r) (upA K t) σ H Q := by
  obtain ⟨ρ, G, q, r0, h, k⟩ := h
  refine ⟨ρ, G, _, r0, h, fun vs ds H1 G1 e1 r1 v1 h1 => ?_⟩
  exact ⟨G1, ds, q, r1.gok, v1, h1, fun v d H' G' e2 g2 v2 h2 => k v d H' G' (e1.trans e2) (r1.ext e2 g2) v2 h2⟩
section
variable {X : Cx} {x : Str} {p pos : Pos} {e : Expr} {es : List Expr} {t : DTA} {id T : String} {r : DRC}
theorem de_callB (hc : DCall X (.builtin id) r) (hg : Gl X x) (hm : X.mg x = none) (hv : bootBuiltins x = some (.builtin id)) (ha : DA X (e :: es) t) (hn : x ≠ "__name__" := by decide) (hdb : (x == ("__debug__" : Str)) = false := by decide)
    (he : starEach (e :: es) X.env = (false, eval e X.env) :: starEach es X.env := by rfl) (hpl : (backTo pos (starEach es X.env)).any (·.1) = false := by rfl) : DE X (.Call (.Name x p) (e :: es) [] pos) (dCB r t) := (pe_callB hc hg hm hv ha hn hdb he hpl).imp fun _ _ _ h => up_cb h
theorem de_callTy (hc : DCall X (.type T) r) (hg : Gl X x) (hm : X.mg x = none) (hv : bootBuiltins x = some (.type T)) (ha : DA X (e :: es) t) (hn : x ≠ "__name__" := by decide) (hdb : (x == ("__debug__" : Str)) = false := by decide)
    (he : starEach (e :: es) X.env = (false, eval e X.env) :: starEach es X.env := by rfl) (hpl : (backTo pos (starEach es X.env)).any (·.1) = false := by rfl) : DE X (.Call (.Name x p) (e :: es) [] pos) (dCB r t) := (pe_callTy hc hg hm hv ha hn hdb he hpl).imp fun _ _ _ h => up_cb h
end
theorem repL_1 {K : PySem.W.Frag} {G : GH} {H : Hp} {d : D} {xs : List V} (h : RepL K G H [d] xs) : ∃ x, xs = [x] ∧ RepV K G H d x := by
  unfold RepL at h
  obtain ⟨x, r, rfl, h1, h2⟩ := h
  unfold RepL at h2
  subst h2
  exact ⟨x, rfl, h1⟩
theorem repL_2 {K : PySem.W.Frag} {G : GH} {H : Hp} {d e : D} {xs : List V} (h : RepL K G H [d, e] xs) : ∃ x y, xs = [x, y] ∧ RepV K G H d x ∧ RepV K G H e y := by
  unfold RepL at h
  obtain ⟨x, r, rfl, h1, h2⟩ := h
  obtain ⟨y, rfl, h3⟩ := repL_1 h2
  exact ⟨x, y, rfl, h1, h3⟩
@[simp] def arg1 (ds : List D) (P : D → Prop) : Prop := match ds with
  | [d] => P d
  | _ => False
theorem arg1_of {ds : List D} {P : D → Prop} (h : arg1 ds P) : ∃ d, ds = [d] ∧ P d := by
  match ds, h with
  | [d], h => exact ⟨d, rfl, h⟩
@[simp] def rLen : DRC := fun ds G Q => arg1 ds fun x => match x with
  | .str z => z.length ≤ sizeLine ∧ Q (.int z.length) G
  | .tup l => Q (.int l.length) G
  | .lst l => Q (.int l.length) G
  | .ref a => (match G a with
    | some (.lst l) => Q (.int l.length) G
    | some (.dct l) => Q (.int l.length) G
    | _ => False)
  | _ => False
@[simp] def rIntC : DRC := fun ds G Q => arg1 ds fun x => match x with
  | .int i => Q (.int i) G
  | .bl b => Q (.int (if b then 1 else 0)) G
  | _ => False
@[simp] def rAbs : DRC := fun ds G Q => arg1 ds fun x => match x with
  | .int i => Q (.int (if i < 0 then -i else i)) G
  | _ => False
def intsD : List D → Option (List Int)
  | [] => some []
  | .int i :: r => (intsD r).map (i :: ·)
  | _ :: _ => none
theorem intsD_of : ∀ {ds : List D} {ns : List Int}, intsD ds = some ns → ds = ns.map D.int
  | [], ns, h => by simp [intsD] at h; subst h; rfl
  | .int i :: r, ns, h => by
    simp only [intsD, Option.map_eq_some_iff] at h
    obtain ⟨ms, h1, rfl⟩ := h
    rw [intsD_of h1]
    rfl
  | .non :: _, _, h => by simp [intsD] at h
  | .bl _ :: _, _, h => by simp [intsD] at h
  | .str _ :: _, _, h => by simp [intsD] at h
  | .byt _ :: _, _, h => by simp [intsD] at h
  | .tup _ :: _, _, h => by simp [intsD] at h
  | .lst _ :: _, _, h => by simp [intsD] at h
  | .ref _ :: _, _, h => by simp [intsD] at h
  | .scr _ :: _, _, h => by simp [intsD] at h
@[simp] def intsP (G : GH) (x : D) (P : List Int → Prop) : Prop := match lsOf G x with
  | some ds => (match intsD ds with
    | some ns => P ns
    | none => False)
  | none => False
theorem ints_of {K : PySem.W.Frag} {G : GH} {H : Hp} {x : D} {v : V} {P : List Int → Prop} (g : GOk K G H) (r : RepV K G H x v) (h : intsP G x P) : ∃ a ns, v = .ref a ∧ SqL K H a (ns.map V.int) ∧ P ns := by
  unfold intsP at h
  cases e : lsOf G x with
  | none => rw [e] at h; exact h.elim
  | some ds =>
    rw [e] at h
    dsimp only at h
    cases e2 : intsD ds with
    | none => rw [e2] at h; exact h.elim
    | some ns =>
      rw [e2] at h
      obtain ⟨a, xs, rfl, h1, rl⟩ := ls_at g r e
      rw [intsD_of e2] at rl
      have := repL_ints rl
      subst this
      exact ⟨a, ns, rfl, SqL.of h1, h⟩
@[simp] def rSumC : DRC := fun ds G Q => arg1 ds fun x => intsP G x fun ns => Q (.int ns.sum) G
@[simp] def rMinC : DRC := fun ds G Q => arg1 ds fun x => intsP G x fun ns => 0 < ns.length ∧ ∀ m, m ∈ ns → (∀ y, y ∈ ns → m ≤ y) → Q (.int m) G
@[simp] def rTupC : DRC := fun ds G Q => arg1 ds fun x => match sqOf G x with
  | some l => Q (.tup l) G
  | none => False
@[simp] def rLstC : DRC := fun ds G Q => arg1 ds fun x => match sqOf G x with
  | some l => ∀ p, G p = none → Q (.ref p) (updG G p (.lst l))
  | none => False
section
variable {X : Cx}
theorem c_len : DCall X (.builtin "len") rLen := by
  intro pins s σ H xs us Q I r ⟨G, ds, q, g, rl, h0, k⟩
  obtain ⟨d, rfl, h⟩ := arg1_of h0
  obtain ⟨x, rfl, rx⟩ := repL_1 rl
  cases d with
  | str z => cases rv_str rx; exact call_len pins s σ H _ us Q I r ⟨_, z.length, rfl, ⟨h.1, rfl⟩, k _ _ H G (Ext.refl G H) g int_rv h.2⟩
  | tup l =>
    obtain ⟨a, ys, rfl, t, rl⟩ := tp_at rx
    exact call_len_seq pins s σ H _ us Q I r ⟨a, ys, rfl, .inr t, by rw [rl.length]; exact k _ _ H G (Ext.refl G H) g int_rv h⟩
  | lst l =>
    obtain ⟨a, ys, rfl, t, rl⟩ := ls_at g rx (ds := l) rfl
    exact call_len_seq pins s σ H _ us Q I r ⟨a, ys, rfl, .inl (SqL.of t), by rw [rl.length]; exact k _ _ H G (Ext.refl G H) g int_rv h⟩
  | ref a =>
    cases rv_ref rx
    dsimp only at h
    cases hg : G a with
    | none => rw [hg] at h; exact h.elim
    | some o =>
      rw [hg] at h
      cases o with
      | lst l =>
        obtain ⟨ys, h1, rl⟩ := g a _ hg
        exact call_len_seq pins s σ H _ us Q I r ⟨a, ys, rfl, .inl (SqL.of h1), by rw [rl.length]; exact k _ _ H G (Ext.refl G H) g int_rv h⟩
      | dct l =>
        obtain ⟨ws, h1, e1, rl⟩ := g a _ hg
        have hl : ws.length = l.length := by simpa using congrArg List.length e1
        refine call_lenD pins s σ H _ us Q I r ⟨a, ws, rfl, h1, ?_⟩
        rw [hl]
        exact k _ _ H G (Ext.refl G H) g int_rv h
      | raw _ => exact h.elim
      | ins _ _ => exact h.elim
      | dtp _ => exact h.elim
      | tab _ => exact h.elim
      | slt _ _ => exact h.elim
  | _ => exact h.elim
theorem c_int : DCall X (.type "int") rIntC := by
  intro pins s σ H xs us Q I r ⟨G, ds, q, g, rl, h0, k⟩
  obtain ⟨d, rfl, h⟩ := arg1_of h0
  obtain ⟨x, rfl, rx⟩ := repL_1 rl
  cases d with
  | int i => cases rv_int rx; exact call_int1 pins s σ H _ us Q I r (.inl ⟨i, rfl, k _ _ H G (Ext.refl G H) g int_rv h⟩)
  | bl b => cases rv_bl rx; exact call_int1 pins s σ H _ us Q I r (.inr ⟨b, rfl, k _ _ H G (Ext.refl G H) g int_rv h⟩)
  | _ => exact h.elim
theorem c_sum (hc : X.calm = true) : DCall X (.builtin "sum") rSumC := by
  intro pins s σ H xs us Q I r ⟨G, ds, q, g, rl, h0, k⟩
  obtain ⟨d, rfl, h⟩ := arg1_of h0
  obtain ⟨x, rfl, rx⟩ := repL_1 rl
  obtain ⟨a, ns, rfl, hs, h⟩ := ints_of g rx h
  exact cr_sum hc pins s σ H _ us Q I r ⟨a, ns, rfl, hs, k _ _ H G (Ext.refl G H) g int_rv h⟩
theorem c_min (hc : X.calm = true) : DCall X (.builtin "min") rMinC := by
  intro pins s σ H xs us Q I r ⟨G, ds, q, g, rl, h0, k⟩
  obtain ⟨d, rfl, h⟩ := arg1_of h0
  obtain ⟨x, rfl, rx⟩ := repL_1 rl
  obtain ⟨a, ns, rfl, hs, h⟩ := ints_of g rx h
  exact cr_min hc pins s σ H _ us Q I r ⟨a, ns, rfl, hs, h.1, fun m h1 h2 => k _ _ H G (Ext.refl G H) g int_rv (h.2 m h1 h2)⟩
theorem c_tuple : DCall X (.type "tuple") rTupC := by
  intro pins s σ H xs us Q I r ⟨G, ds, q, g, rl, h0, k⟩
  obtain ⟨d, rfl, h⟩ := arg1_of h0
  obtain ⟨x, rfl, rx⟩ := repL_1 rl
  cases e : sqOf G d with
  | none => rw [e] at h; exact h.elim
  | some l =>
    rw [e] at h
    obtain ⟨a, ys, rfl, hs, rl⟩ := sq_at g rx e
    refine call_tuple_of pins s σ H _ us Q I r ⟨a, ys, rfl, ?_⟩
    rcases hs with hs | hs
    · refine .inl ⟨hs, fun p hp => ?_⟩
      obtain ⟨e1, g1, v1⟩ := new_tup g hp rl
      exact k _ _ _ _ e1 g1 v1 h
    · refine .inr ⟨hs, ?_⟩
      cases d with
      | tup l2 =>
        simp only [sqOf, Option.some.injEq] at e
        subst e
        exact k _ _ H G (Ext.refl G H) g rx h
      | lst l2 =>
        obtain ⟨a2, xs2, e2, h2, _⟩ := ls_at g rx (ds := l) e
        cases e2
        have z1 := (I.list (SqL.of h2))
        obtain ⟨its, _, ⟨o, n, ho, hc, _⟩, _⟩ := z1
        obtain ⟨its2, _, ⟨o2, ho2, hc2, _⟩, _⟩ := I.tuple hs
        rw [ho] at ho2
        cases ho2
        rw [hc] at hc2
        simp at hc2
      | ref a2 =>
        obtain ⟨a2, xs2, e2, h2, _⟩ := ls_at g rx (ds := l) e
        cases e2
        have z1 := (I.list (SqL.of h2))
        obtain ⟨its, _, ⟨o, n, ho, hc, _⟩, _⟩ := z1
        obtain ⟨its2, _, ⟨o2, ho2, hc2, _⟩, _⟩ := I.tuple hs
        rw [ho] at ho2
        cases ho2
        rw [hc] at hc2
        simp at hc2
      | _ => simp [sqOf] at e
theorem c_list : DCall X (.type "list") rLstC := by
  intro pins s σ H xs us Q I r ⟨G, ds, q, g, rl, h0, k⟩
  obtain ⟨d, rfl, h⟩ := arg1_of h0
  obtain ⟨x, rfl, rx⟩ := repL_1 rl
  cases e : sqOf G d with
  | none => rw [e] at h; exact h.elim
  | some l =>
    rw [e] at h
    obtain ⟨a, ys, rfl, hs, rl⟩ := sq_at g rx e
    refine call_list_of pins s σ H _ us Q I r ⟨a, ys, rfl, hs, fun p hp => ?_⟩
    obtain ⟨e1, g1, v1⟩ := new_lst g hp rl
    exact k _ _ _ _ e1 g1 v1 (h p (g.fresh hp))
end

section
open AutoSeq1
theorem ext_by_tuple (l : Addr) (items : Array Value) (n : Nat) (b : Addr) (more : Array Value) (n2 : Nat) (dd : Option Addr) (sl : Array (Option Value)) (hs0 : ¬(!items.isEmpty && Builtin.List.listTooLong (items.size + more.size)) = true) (hs1 : items.size ≤ sizeLine)
    (hs2 : items.size + more.size ≤ sizeLine + 1) :
    Meets (Builtin.«list.extend» ⟨[.ref l, .ref b], []⟩) (fun _ R s => s.heap.get? l = some { cls := .type "list", data := .seq items n } ∧ s.heap.get? b = some { cls := .type "tuple", dict := dd, data := .seq more n2, slots := sl } ∧
      R (.ok (.ret Value.none)) { s with heap := s.heap.update l (Obj.mapSeq fun x => x ++ more) }) :=
  .of_wp fun prog w A R st hh => by
    obtain ⟨hp, gg, dr, tk, os⟩ := st
    obtain ⟨hl, hb, hR⟩ := hh
    have f1 := idx_int
    have f2 := sub_tuple_tuple
    have f3 := sub_list_list
    have f4 := sub_tuple_list
    have f5 := sub_list_tuple
    have hz : (items ++ more).size ≤ sizeLine + 1 := by rw [Array.size_append]; exact hs2
    wp_walk using (wpAny_updateSeq hl rfl (hz := hs1) (_hz' := hz)), wpAny_loadPart' hl, wpAny_loadPart' hb
    exact ⟨_, rfl, hR⟩
end
abbrev DRM := D → List D → GH → DK → Prop
def upM (K : PySem.W.Frag) (r : DRM) : V → List V → Hp → VK → Prop := fun x xs H Qv => ∃ (G : GH) (d : D) (ds : List D) (Q : DK), GOk K G H ∧ RepV K G H d x ∧ RepL K G H ds xs ∧ r d ds G Q ∧ ∀ v d H' G', Ext G H G' H' → GOk K G' H' → RepV K G' H' d v → Q d G' → Qv v H'
@[simp] def dMt (r : DRM) (to : DTE) (t : DTA) : DTE := fun ρ G Q => to ρ G fun x G1 => lstP G1 x fun _ _ => t ρ G1 fun ds G2 => r x ds G2 Q
@[simp] def mAppend : DRM := fun x ds G Q => lstP G x fun a l => arg1 ds fun d => l.length < sizeLine ∧ Q .non (updG G a (.lst (l ++ [d])))
@[simp] def mExtend : DRM := fun x ds G Q => lstP G x fun a l => arg1 ds fun d => match sqOf G d with
  | some m => l.length + m.length ≤ sizeLine ∧ Q .non (updG G a (.lst (l ++ m)))
  | none => False
@[simp] def mPop : DRM := fun x ds G Q => lstP G x fun a l => match ds with
  | [] => (match l[l.length - 1]? with
    | some d => Q d (updG G a (.lst l.dropLast))
    | none => False)
  | _ => False
section
variable {X : Cx}
theorem m_append : MtR X "list.append" (upM X.K mAppend) := by
  intro pins s σ H x xs v us Q I rx rv ⟨G, d, ds, q, g, r1, r2, h, k⟩
  obtain ⟨a, l, ys, rfl, rfl, hg, h1, h2, rl⟩ := lst_of g r1 h
  obtain ⟨e, rfl, h3⟩ := arg1_of h1
  obtain ⟨y, rfl, ry⟩ := repL_1 r2
  refine mt_append pins s σ H _ _ v us Q I rx rv ⟨a, ys, y, rfl, rfl, h2, by rw [rl.length]; exact h3.1, ?_⟩
  obtain ⟨e1, g1⟩ := put_lst g hg (rl.append (repL_one ry))
  exact k _ _ _ _ e1 g1 non_rv h3.2
theorem m_pop : MtR X "list.pop" (upM X.K mPop) := by
  intro pins s σ H x xs v us Q I rx rv ⟨G, d, ds, q, g, r1, r2, h, k⟩
  obtain ⟨a, l, ys, rfl, rfl, hg, h1, h2, rl⟩ := lst_of g r1 h
  cases ds with
  | cons _ _ => exact h1.elim
  | nil =>
    unfold RepL at r2
    subst r2
    dsimp only at h1
    cases e : l[l.length - 1]? with
    | none => rw [e] at h1; exact h1.elim
    | some d =>
      rw [e] at h1
      obtain ⟨y, hy, ry⟩ := rl.get e
      refine mt_pop pins s σ H _ _ v us Q I rx rv ⟨a, ys, y, rfl, rfl, h2, by rw [rl.length]; exact hy, ?_⟩
      obtain ⟨e1, g1⟩ := put_lst g hg rl.dropLast
      exact k _ _ _ _ e1 g1 (ry.ext e1) h1
theorem m_extend : MtR X "list.extend" (upM X.K mExtend) := by
  intro pins s σ H x xs v us Q I rx rv ⟨G, d, ds, q, g, r1, r2, h, k⟩
  obtain ⟨a, l, ys, rfl, rfl, hg, h1, h2, rl⟩ := lst_of g r1 h
  obtain ⟨e, rfl, h3⟩ := arg1_of h1
  obtain ⟨y, rfl, ry⟩ := repL_1 r2
  cases e2 : sqOf G e with
  | none => rw [e2] at h3; exact h3.elim
  | some m =>
    rw [e2] at h3
    obtain ⟨b, zs, rfl, hs, rm⟩ := sq_at g ry e2
    obtain ⟨e1, g1⟩ := put_lst g hg (rl.append rm)
    have fin : Q .non (upd H a (.lst (ys ++ zs))) := k _ _ _ _ e1 g1 non_rv h3.2
    have hz : ys.length + zs.length ≤ sizeLine := by rw [rl.length, rm.length]; exact h3.1
    have hcase : (H b = some (.lst zs)) ∨ SqT X.K H b zs := by
      rcases hs with hs | hs
      · cases e with
        | tup l2 =>
          obtain ⟨a2, xs2, e3, h4, _⟩ := tp_at ry
          cases e3
          obtain ⟨its, _, ⟨o, n, ho, hc, _⟩, _⟩ := I.list hs
          obtain ⟨its2, _, ⟨o2, ho2, hc2, _⟩, _⟩ := I.tuple h4
          rw [ho] at ho2
          cases ho2
          rw [hc] at hc2
          simp at hc2
        | lst l2 =>
          obtain ⟨a2, xs2, e3, h4, _⟩ := ls_at g ry (ds := m) e2
          cases e3
          rw [I.list_inj hs (SqL.of h4)]
          exact .inl h4
        | ref l2 =>
          obtain ⟨a2, xs2, e3, h4, _⟩ := ls_at g ry (ds := m) e2
          cases e3
          rw [I.list_inj hs (SqL.of h4)]
          exact .inl h4
        | _ => simp [sqOf] at e2
      · exact .inr hs
    rcases hcase with hb | hb
    · exact mt_extend pins s σ H _ _ v us Q I rx rv ⟨a, b, ys, zs, rfl, rfl, h2, hb, hz, fin⟩
    · cases rx
      obtain ⟨u, rfl, ru⟩ := rv.one
      cases ru
      obtain ⟨z, its, n, r, hl, e⟩ := I.lstM h2
      obtain ⟨its2, r2', ⟨⟨cls, dd, data, sl⟩, ho, hcl, n2, hd⟩, hz2⟩ := I.tuple hb
      simp only at hcl hd
      subst hcl hd
      have hl2 := r2'.length
      have hsz : its.toArray.size + its2.toArray.size ≤ sizeLine := by rw [List.size_toArray, List.size_toArray]; omega
      have hlong : ¬ (!its.toArray.isEmpty && Builtin.List.listTooLong (its.toArray.size + its2.toArray.size)) = true := by
        rw [notLongL hsz, Bool.and_false]
        exact Bool.false_ne_true
      refine call_meets F.slot_list_extend ⟨_, e, rfl⟩ F.entry_list_extend (F.args_list_extend_2 _ _)
        (ext_by_tuple a its.toArray n b its2.toArray n2 dd sl hlong (by rw [List.size_toArray]; omega) (by omega)) ⟨e, ho, ?_⟩
      refine ⟨.non, _, I.lset (its' := its ++ its2) h2 e (by simp) (r.append r2') ?_, rfl, fin⟩
      rw [List.length_append]
      omega
variable {o e : Expr} {es : List Expr} {to : DTE} {t : DTA} {name : Str} {apos cpos : Pos} {id : String} {r : DRM}
theorem up_mt {K : PySem.W.Frag} {σ : St} {H : Hp} {Q : VK} (h : up K (dMt r to t) σ H Q) : tBM K "list" (upM K r) (up K to) (upA K t) σ H Q := by
  obtain ⟨ρ, G, q, r0, h, k⟩ := h
  refine ⟨ρ, G, _, r0, h, fun x dx H1 G1 e1 r1 v1 h1 => ?_⟩
  obtain ⟨a, l, ys, rfl, rfl, hg, h2, h3, rl⟩ := lst_of r1.gok v1 h1
  refine ⟨.inl ⟨rfl, ys, SqL.of h3⟩, ρ, G1, _, r1, h2, fun vs ds H2 G2 e2 r2 v2 h4 => ?_⟩
  exact ⟨G2, .ref a, ds, q, r2.gok, ref_rv, v2, h4, fun v d H' G' e3 g3 v3 h3 => k v d H' G' ((e1.trans e2).trans e3) (r2.ext e3 g3) v3 h3⟩
theorem de_mt (slot : Slot "list" name id) (hty : typeOf (.builtin id) = pure (.type "method_descriptor")) (hm : MtR X id (upM X.K r)) (ho : DE X o to) (ha : DA X (e :: es) t)
    (hbase : attributeBase o name X.env (eval o X.env) = eval o X.env := by rfl)
    (hfew : ((backTo cpos (starEach (e :: es) X.env)).all (fun x => !x.1) && (backToKw cpos (keywordEach [] X.env)).all (fun x => x.1.isSome)
      && decide ((e :: es).length + ([] : List Keyword).length + (if ([] : List Keyword).isEmpty then 0 else 1) < 30)) = true := by rfl)
    (hline : (apos.endLine == cpos.line) = true := by rfl) (hs : starEach (e :: es) X.env = (false, eval e X.env) :: starEach es X.env := by rfl) (hplain : (backTo cpos (starEach es X.env)).any (·.1) = false := by rfl) :
    DE X (.Call (.Attribute o name apos) (e :: es) [] cpos) (dMt r to t) := (pe_bm F.plainAttrs_list slot hty hm ho ha hbase hfew hline hs hplain).imp fun _ _ _ h => up_mt h
theorem de_mt0 (slot : Slot "list" name id) (hty : typeOf (.builtin id) = pure (.type "method_descriptor")) (hm : MtR X id (upM X.K r)) (ho : DE X o to)
    (hbase : attributeBase o name X.env (eval o X.env) = eval o X.env := by rfl) (hline : (apos.endLine == cpos.line) = true := by rfl) : DE X (.Call (.Attribute o name apos) [] [] cpos) (dMt r to dNil) :=
  (pe_bm0 F.plainAttrs_list slot hty hm ho hbase hline).imp fun σ H Q ⟨ρ, G, q, r0, h, k⟩ => by
    refine ⟨ρ, G, _, r0, h, fun x dx H1 G1 e1 r1 v1 h1 => ?_⟩
    obtain ⟨a, l, ys, rfl, rfl, hg, h2, h3, rl⟩ := lst_of r1.gok v1 h1
    refine ⟨.inl ⟨rfl, ys, SqL.of h3⟩, ?_⟩
    exact ⟨G1, .ref a, [], q, r1.gok, ref_rv, repL_nil, h2, fun v d H' G' e3 g3 v3 h3 => k v d H' G' (e1.trans e3) (r1.ext e3 g3) v3 h3⟩
theorem de_append {x : Expr} {tx : DTE} (ho : DE X o to) (ha : DE X x tx)
    (hbase : attributeBase o "append" X.env (eval o X.env) = eval o X.env := by rfl)
    (hfew : ((backTo cpos (starEach [x] X.env)).all (fun x => !x.1) && (backToKw cpos (keywordEach [] X.env)).all (fun x => x.1.isSome)
      && decide ([x].length + ([] : List Keyword).length + (if ([] : List Keyword).isEmpty then 0 else 1) < 30)) = true := by rfl)
    (hline : (apos.endLine == cpos.line) = true := by rfl) (hs : starEach [x] X.env = (false, eval x X.env) :: starEach [] X.env := by rfl) (hplain : (backTo cpos (starEach [] X.env)).any (·.1) = false := by rfl) :
    DE X (.Call (.Attribute o "append" apos) [x] [] cpos) (dMt mAppend to (dCons tx dNil)) := de_mt F.slot_list_append F.type_list_append m_append ho (da_cons ha da_nil hs) hbase hfew hline hs hplain
theorem de_extend {x : Expr} {tx : DTE} (ho : DE X o to) (ha : DE X x tx)
    (hbase : attributeBase o "extend" X.env (eval o X.env) = eval o X.env := by rfl)
    (hfew : ((backTo cpos (starEach [x] X.env)).all (fun x => !x.1) && (backToKw cpos (keywordEach [] X.env)).all (fun x => x.1.isSome)
      && decide ([x].length + ([] : List Keyword).length + (if ([] : List Keyword).isEmpty then 0 else 1) < 30)) = true := by rfl)
    (hline : (apos.endLine == cpos.line) = true := by rfl) (hs : starEach [x] X.env = (false, eval x X.env) :: starEach [] X.env := by rfl) (hplain : (backTo cpos (starEach [] X.env)).any (·.1) = false := by rfl) :
    DE X (.Call (.Attribute o "extend" apos) [x] [] cpos) (dMt mExtend to (dCons tx dNil)) := de_mt F.slot_list_extend F.type_list_extend m_extend ho (da_cons ha da_nil hs) hbase hfew hline hs hplain
theorem de_pop (ho : DE X o to)
    (hbase : attributeBase o "pop" X.env (eval o X.env) = eval o X.env := by rfl) (hline : (apos.endLine == cpos.line) = true := by rfl) : DE X (.Call (.Attribute o "pop" apos) [] [] cpos) (dMt mPop to dNil) :=
  de_mt0 F.slot_list_pop F.type_list_pop m_pop ho hbase hline
end
end Dl

namespace Dl
open PySem L2

@[simp] def dStar (te : DTE) (tr : DTA) : DTA := fun ρ G Q => te ρ G fun x G1 => match sqOf G1 x with
  | some ds => tr ρ G1 fun xs G2 => Q (ds ++ xs) G2
  | none => False
section
variable {X : Cx}
theorem da_star {e : Expr} {es : List Expr} {te : DTE} {t : DTA} {p : Pos} (he : DE X e te) (hr : DA X es t) (hs : starEach (.Starred e p :: es) X.env = (true, eval e X.env) :: starEach es X.env := by rfl) : DA X (.Starred e p :: es) (dStar te t) := by
  refine (StX.pa_star he hr hs).imp fun σ H Q ⟨ρ, G, q, r, h, k⟩ => ?_
  refine ⟨ρ, G, _, r, h, fun v d H1 G1 e1 r1 v1 h1 => ?_⟩
  cases e2 : sqOf G1 d with
  | none => rw [e2] at h1; exact h1.elim
  | some ds =>
    rw [e2] at h1
    obtain ⟨a, xs, rfl, hs, rl⟩ := sq_at r1.gok v1 e2
    refine ⟨a, xs, rfl, hs.symm, ρ, G1, _, r1, h1, fun vs es H2 G2 e3 r2 v2 h2 => ?_⟩
    exact k _ _ H2 G2 (e1.trans e3) r2 ((rl.ext e3).append v2) h2

end
@[simp] def truP (G : GH) (d : D) (P : Bool → Prop) : Prop := match d with
  | .non => P false
  | .bl b => P b
  | .int i => P (i != 0)
  | .str x => x.length ≤ sizeLine ∧ P ((x.length : Int) != 0)
  | .tup l => P (!l.isEmpty)
  | .lst l => P (!l.isEmpty)
  | .ref a => (match G a with
    | some (.lst l) => P (!l.isEmpty)
    | some (.dct l) => P (!l.isEmpty)
    | _ => False)
  | _ => False
@[simp] def dTru (te : DTE) : DTT := fun ρ G Q => te ρ G fun d G1 => truP G1 d fun b => Q b G1
theorem isEmpty_len {α β : Type} {xs : List α} {ys : List β} (h : xs.length = ys.length) : xs.isEmpty = ys.isEmpty := by
  cases xs <;> cases ys <;> simp_all
theorem tru_of {K : PySem.W.Frag} {G : GH} {H : Hp} {d : D} {v : V} {P : Bool → Prop} (g : GOk K G H) (r : RepV K G H d v) (h : truP G d P) : ∃ b, TruV K v H b ∧ P b := by
  cases d with
  | non => cases rv_non r; exact ⟨false, rfl, h⟩
  | bl b => cases rv_bl r; exact ⟨b, rfl, h⟩
  | int i => cases rv_int r; exact ⟨_, rfl, h⟩
  | str x => cases rv_str r; exact ⟨_, ⟨h.1, rfl⟩, h.2⟩
  | tup l =>
    obtain ⟨a, xs, rfl, t, rl⟩ := tp_at r
    exact ⟨_, .inr (.inl ⟨xs, t, rfl⟩), by rw [isEmpty_len rl.length]; exact h⟩
  | lst l =>
    obtain ⟨a, xs, rfl, t, rl⟩ := ls_at g r (ds := l) rfl
    exact ⟨_, .inl ⟨xs, SqL.of t, rfl⟩, by rw [isEmpty_len rl.length]; exact h⟩
  | ref a =>
    cases rv_ref r
    dsimp only [truP] at h
    cases hg : G a with
    | none => rw [hg] at h; exact h.elim
    | some o =>
      rw [hg] at h
      cases o with
      | lst l =>
        obtain ⟨xs, h1, rl⟩ := g a _ hg
        exact ⟨_, .inl ⟨xs, SqL.of h1, rfl⟩, by rw [isEmpty_len rl.length]; exact h⟩
      | dct l =>
        obtain ⟨ws, h1, e1, rl⟩ := g a _ hg
        have hl : ws.length = l.length := by simpa using congrArg List.length e1
        exact ⟨_, .inr (.inr ⟨ws, h1, rfl⟩), by rw [isEmpty_len hl]; exact h⟩
      | raw _ => exact h.elim
      | ins _ _ => exact h.elim
      | dtp _ => exact h.elim
      | tab _ => exact h.elim
      | slt _ _ => exact h.elim
  | _ => exact h.elim
section
variable {X : Cx}
theorem dt_tru {e : Expr} {te : DTE} (h : DE X e te) (he : ∀ whole, isTrue e X.env whole = (do let v ← whole; standAt e.pos; holding [v] (truthy v)) := by intro _; rfl) : DT X e (dTru te) := by
  refine (pt_truth h he).imp fun σ H Q ⟨ρ, G, q, r, h, k⟩ => ?_
  refine ⟨ρ, G, _, r, h, fun v d H1 G1 e1 r1 v1 h1 => ?_⟩
  obtain ⟨b, hb, h2⟩ := tru_of r1.gok v1 h1
  exact ⟨b, hb, k b H1 G1 e1 r1 h2⟩

end
@[simp] def tyD (G : GH) : D → Option String
  | .non => some "NoneType"
  | .bl _ => some "bool"
  | .int _ => some "int"
  | .str _ => some "str"
  | .byt _ => some "bytes"
  | .tup _ => some "tuple"
  | .lst _ => some "list"
  | .ref a => (match G a with
    | some (.lst _) => some "list"
    | some (.dct _) => some "dict"
    | _ => none)
  | .scr _ => none
  | .fn _ _ _ _ => none
  | .exh _ _ _ _ _ => none
@[simp] def subT (a b : String) : Bool := (a == b) || (a == "bool" && b == "int")
@[simp] def dIsi (T : String) (te : DTE) : DTE := fun ρ G Q => te ρ G fun d G1 => match tyD G1 d with
  | some t => Q (.bl (subT t T)) G1
  | none => False
def isiTypes : List String := ["NoneType", "bool", "int", "str", "bytes", "tuple", "list", "dict"]
theorem isi_tab : ∀ a ∈ isiTypes, ∀ b ∈ ["int", "bool", "str", "tuple", "list"], kitB a b = some (subT a b) := by decide +kernel
theorem ty_of {K : PySem.W.Frag} {G : GH} {H : Hp} {d : D} {v : V} {t : String} (g : GOk K G H) (r : RepV K G H d v) (h : tyD G d = some t) : TyX K H v (.type t) ∧ t ∈ isiTypes := by
  cases d with
  | non => cases rv_non r; simp only [tyD, Option.some.injEq] at h; subst h; exact ⟨.base .non, by decide⟩
  | bl b => cases rv_bl r; simp only [tyD, Option.some.injEq] at h; subst h; exact ⟨.base (.bl b), by decide⟩
  | int b => cases rv_int r; simp only [tyD, Option.some.injEq] at h; subst h; exact ⟨.base (.int b), by decide⟩
  | str b => cases rv_str r; simp only [tyD, Option.some.injEq] at h; subst h; exact ⟨.base (.str b), by decide⟩
  | byt b => unfold RepV at r; subst r; simp only [tyD, Option.some.injEq] at h; subst h; exact ⟨.byt b, by decide⟩
  | tup l =>
    unfold RepV at r
    obtain ⟨a, xs, rfl, t, rl⟩ := r
    simp only [tyD, Option.some.injEq] at h
    subst h
    refine ⟨?_, by decide⟩
    rcases t with ⟨_, t⟩ | ⟨_, o, its, n, hk, hc, _⟩
    · exact .base (.tup t)
    · exact .kTuple hk hc
  | lst l =>
    unfold RepV at r
    obtain ⟨a, xs, rfl, t, rl⟩ := r
    simp only [tyD, Option.some.injEq] at h
    subst h
    exact ⟨.base (.lst t.2), by decide⟩
  | ref a =>
    cases rv_ref r
    dsimp only [tyD] at h
    cases hg : G a with
    | none => rw [hg] at h; cases h
    | some o =>
      rw [hg] at h
      cases o with
      | lst l =>
        obtain ⟨xs, h1, rl⟩ := g a _ hg
        simp only [Option.some.injEq] at h
        subst h
        exact ⟨.base (.lst h1), by decide⟩
      | dct l =>
        obtain ⟨ws, h1, _⟩ := g a _ hg
        simp only [Option.some.injEq] at h
        subst h
        exact ⟨.base (.dK h1), by decide⟩
      | raw _ => cases h
      | ins _ _ => cases h
      | dtp _ => cases h
      | tab _ => cases h
      | slt _ _ => cases h
  | scr _ => simp [tyD] at h
  | fn _ _ _ _ => simp [tyD] at h
  | exh _ _ _ _ _ => simp [tyD] at h
section
variable {X : Cx}
theorem de_isi {e : Expr} {te : DTE} {T : String} {Tn : Str} {p pT pos : Pos} (hT : T ∈ ["int", "bool", "str", "tuple", "list"]) (hg : Gl X "isinstance") (hm : X.mg "isinstance" = none) (hgT : Gl X Tn) (hmT : X.mg Tn = none) (hbT : bootBuiltins Tn = some (.type T)) (he : DE X e te)
    (hs : starEach [e, .Name Tn pT] X.env = (false, eval e X.env) :: starEach [.Name Tn pT] X.env := by rfl) (hs2 : starEach [.Name Tn pT] X.env = (false, eval (.Name Tn pT) X.env) :: starEach [] X.env := by rfl) (hpl : (backTo pos (starEach [.Name Tn pT] X.env)).any (·.1) = false := by rfl)
    (hn : Tn ≠ "__name__" := by decide) (hd : (Tn == ("__debug__" : Str)) = false := by decide) :
    DE X (.Call (.Name "isinstance" p) [e, .Name Tn pT] [] pos) (dIsi T te) := by
  refine (pe_callB call_isi hg hm PyProof.Rows.boot_isinstance (pa_cons he (pa_cons (pe_bltn (v := .ty T) hgT hmT hbT rfl hn hd) pa_nil hs2) hs) (he := hs) (hpl := hpl)).imp fun σ H Q ⟨ρ, G, q, r, h, k⟩ => ?_
  refine ⟨ρ, G, _, r, h, fun v d H1 G1 e1 r1 v1 h1 => ?_⟩
  cases e2 : tyD G1 d with
  | none => rw [e2] at h1; exact h1.elim
  | some t =>
    rw [e2] at h1
    obtain ⟨ty, tm⟩ := ty_of r1.gok v1 e2
    exact ⟨v, .ty T, .type t, .type T, subT t T, rfl, .ty T, ty, kit_ty (isi_tab t tm T hT), k _ _ H1 G1 e1 r1 bl_rv h1⟩

end
mutual
/-- ints of few digits -/
def fewD : D → Bool
  | .int i => decide (i.natAbs.log2 < 1920)
  | .tup ds => fewDs ds
  | .lst ds => fewDs ds
  | _ => true
def fewDs : List D → Bool
  | [] => true
  | d :: ds => fewD d && fewDs ds
end
mutual
theorem show_py : ∀ d : D, fewD d = true → (pyD d).showable = true
  | .non, _ => by simp [pyD, PyData.showable]
  | .bl _, _ => by simp [pyD, PyData.showable]
  | .int i, h => by simpa [pyD, PyData.showable, fewD] using h
  | .str x, _ => by simp [pyD, PyData.showable]
  | .tup ds, h => by simpa [pyD, PyData.showable] using shows_py ds (by simpa [fewD] using h)
  | .lst ds, h => by simpa [pyD, PyData.showable] using shows_py ds (by simpa [fewD] using h)
  | .byt _, h => by simp [pyD, PyData.showable]
  | .ref _, h => by simp [pyD, PyData.showable]
  | .scr _, h => by simp [pyD, PyData.showable]
  | .fn _ _ _ _, h => by simp [pyD, PyData.showable]
  | .exh _ _ _ _ _, h => by simp [pyD, PyData.showable]
theorem shows_py : ∀ ds : List D, fewDs ds = true → PyData.showableAll (pyDs ds) = true
  | [], _ => by simp [pyDs, PyData.showableAll]
  | d :: ds, h => by
    simp only [fewDs, Bool.and_eq_true] at h
    simp [pyDs, PyData.showableAll, show_py d h.1, shows_py ds h.2]
end
def shD (d : D) : Str := (pyD d).shown
def isSeqD : D → Bool
  | .tup _ => true
  | .lst _ => true
  | _ => false
structure Shw (d : D) : Prop where
  sq : isSeqD d = true
  ok : okD d
  few : fewD d = true
  len : (shD d).length ≤ sizeLine
@[simp] def rRepr : DRC := fun ds G Q => arg1 ds fun x => Shw (vw G x) ∧ Q (.str (shD (vw G x))) G
section
variable {X : Cx}
theorem c_repr (hgd : X.A.guards = some []) (hu : X.A.units + 70 < cLine) : DCall X (.builtin "repr") rRepr := by
  intro pins s σ H xs us Q I r ⟨G, ds, q, g, rl, h0, k⟩
  obtain ⟨d, rfl, hS, h⟩ := arg1_of h0
  obtain ⟨x, rfl, rx⟩ := repL_1 rl
  obtain ⟨u, rfl, ru⟩ := vals1 r
  have dp := vw_dp g rx hS.ok.1
  obtain ⟨as, rd⟩ := Dp.reads I _ x u dp ru
  obtain ⟨a, rfl⟩ : ∃ a, u = Value.ref a := by
    have hs := hS.sq
    cases e : vw G d with
    | tup l =>
      rw [e] at rd
      simp only [pyD] at rd
      cases rd
      exact ⟨_, rfl⟩
    | lst l =>
      rw [e] at rd
      simp only [pyD] at rd
      cases rd
      exact ⟨_, rfl⟩
    | _ => rw [e] at hs; simp [isSeqD] at hs
  have hnd := PyData.hasDict_of_canLay _ (lay_py _ hS.ok.1)
  have hdep : (pyD (vw G d)).depth ≤ 64 := by rw [depth_py]; exact hS.ok.2
  refine repr_of_reads' rd (show_py _ hS.few) (PyData.noDict_hsm hnd) hgd (by omega) (fun _ _ e => e) (fun h' u' tk hk => ?_) hS.len
  exact ⟨.str _, H, I.kept hk, ⟨_, rfl⟩, k _ _ H G (Ext.refl G H) g str_rv h⟩

end
@[simp] def dPairs : List (DTE × DTE) → DSt → GH → (List (D × D) → GH → Prop) → Prop
  | [], _, G, Q => Q [] G
  | (tk, tv) :: r, ρ, G, Q => tk ρ G fun x G1 => tv ρ G1 fun y G2 => dPairs r ρ G2 fun ps G3 => Q ((x, y) :: ps) G3
def keysD : List (D × D) → Option (List (Key × D))
  | [] => some []
  | p :: r => (match keyD p.1 with
    | some k => (keysD r).map ((k, p.2) :: ·)
    | none => none)
def mergeD (kvs : List (Key × D)) : List (Key × D) → List (Key × D)
  | [] => kvs
  | p :: r => mergeD (putD kvs p.1 p.2) r
@[simp] def dDisp (trs : List (DTE × DTE)) : DTE := fun ρ G Q => ∀ p, G p = none → dPairs trs ρ (updG G p (.dct [])) fun ps G2 => G2 p = some (.dct []) ∧ match keysD ps with
  | some kvs => kvs.length ≤ 15 ∧ Q (.ref p) (updG G2 p (.dct (mergeD [] kvs)))
  | none => False
def upTrs (K : PySem.W.Frag) (trs : List (DTE × DTE)) : List (TE × TE) := trs.map fun p => (up K p.1, up K p.2)
inductive RepP (K : PySem.W.Frag) (G : GH) (H : Hp) : List (D × D) → List (V × V) → Prop
  | nil : RepP K G H [] []
  | cons {d e : D} {x y : V} {ps : List (D × D)} {qs : List (V × V)} : RepV K G H d x → RepV K G H e y → RepP K G H ps qs → RepP K G H ((d, e) :: ps) ((x, y) :: qs)
theorem pairs_up {K : PySem.W.Frag} : ∀ {trs : List (DTE × DTE)} {σ : St} {H : Hp} {ρ : DSt} {G : GH} {Q : List (D × D) → GH → Prop} {Qv : List (V × V) → Hp → Prop}, DRel K σ H ρ G → dPairs trs ρ G Q →
    (∀ qs ps H' G', Ext G H G' H' → DRel K σ H' ρ G' → RepP K G' H' ps qs → Q ps G' → Qv qs H') → tPairs (upTrs K trs) σ H Qv
  | [], σ, H, ρ, G, Q, Qv, r, h, k => k [] [] H G (Ext.refl G H) r .nil h
  | (tk, tv) :: trs, σ, H, ρ, G, Q, Qv, r, h, k => by
    refine ⟨ρ, G, _, r, h, fun x dx H1 G1 e1 r1 v1 h1 => ?_⟩
    refine ⟨ρ, G1, _, r1, h1, fun y dy H2 G2 e2 r2 v2 h2 => ?_⟩
    refine pairs_up r2 h2 fun qs ps H3 G3 e3 r3 v3 h3 => ?_
    exact k _ _ H3 G3 ((e1.trans e2).trans e3) r3 (.cons (v1.ext (e2.trans e3)) (v2.ext e3) v3) h3
theorem keys_rep {K : PySem.W.Frag} {G : GH} {H : Hp} : ∀ {ps : List (D × D)} {qs : List (V × V)} {kvs : List (Key × D)}, RepP K G H ps qs → keysD ps = some kvs → ∃ ws : List (Key × V), qs = ws.map (fun kv => (kV kv.1, kv.2)) ∧ ws.map (·.1) = kvs.map (·.1) ∧ RepL K G H (kvs.map (·.2)) (ws.map (·.2))
  | _, _, kvs, .nil, h => by
    simp only [keysD, Option.some.injEq] at h
    subst h
    exact ⟨[], rfl, rfl, repL_nil⟩
  | _, _, kvs, .cons (d := d) (e := e) (x := x) (y := y) a b c, h => by
    unfold keysD at h
    cases hk : keyD d with
    | none => simp only [hk] at h; cases h
    | some k =>
      simp only [hk, Option.map_eq_some_iff] at h
      obtain ⟨ks, h1, rfl⟩ := h
      obtain ⟨ws, e1, e2, e3⟩ := keys_rep c h1
      refine ⟨(k, y) :: ws, ?_, ?_, ?_⟩
      · rw [key_rep a hk, e1]; rfl
      · simp [e2]
      · exact repL_cons b e3
theorem merge_rep {K : PySem.W.Frag} {G : GH} {H : Hp} : ∀ {kvs : List (Key × D)} {ws : List (Key × V)} {acc : List (Key × D)} {bcc : List (Key × V)}, ws.map (·.1) = kvs.map (·.1) → RepL K G H (kvs.map (·.2)) (ws.map (·.2)) → bcc.map (·.1) = acc.map (·.1) → RepL K G H (acc.map (·.2)) (bcc.map (·.2)) →
    (mergeK bcc ws).map (·.1) = (mergeD acc kvs).map (·.1) ∧ RepL K G H ((mergeD acc kvs).map (·.2)) ((mergeK bcc ws).map (·.2))
  | [], [], _, _, _, _, e, r => ⟨e, r⟩
  | [], _ :: _, _, _, e, _, _, _ => by simp at e
  | _ :: _, [], _, _, e, _, _, _ => by simp at e
  | p :: kvs, q :: ws, acc, bcc, e, r, e2, r2 => by
    simp only [List.map_cons, List.cons.injEq] at e
    simp only [List.map_cons] at r
    unfold RepL at r
    obtain ⟨x, t, e3, h1, h2⟩ := r
    simp only [List.cons.injEq] at e3
    obtain ⟨e4, e5⟩ := e3
    subst e4
    rw [← e5] at h2
    obtain ⟨i1, i2⟩ := putD_rep (k := p.1) h1 e2 r2
    have := merge_rep (acc := putD acc p.1 p.2) (bcc := putK bcc p.1 q.2) e.2 h2 i1 i2
    unfold mergeD
    show (mergeK (putK bcc q.1 q.2) ws).map _ = _ ∧ RepL K G H _ ((mergeK (putK bcc q.1 q.2) ws).map _)
    rw [e.1]
    exact this
section
variable {X : Cx}
abbrev DPs (X : Cx) (pos : Pos) (keys : List (Option Expr)) (values : List Expr) (trs : List (DTE × DTE)) : Prop := PPs X pos keys values (upTrs X.K trs)
theorem dps_nil {pos : Pos} : DPs X pos [] [] [] := pps_nil
theorem dps_cons {pos : Pos} {k v : Expr} {ks : List (Option Expr)} {vs : List Expr} {tk tv : DTE} {trs : List (DTE × DTE)} (hk : DE X k tk) (hv : DE X v tv) (hr : DPs X pos ks vs trs) : DPs X pos (some k :: ks) (v :: vs) ((tk, tv) :: trs) := pps_cons hk hv hr
theorem de_disp {pos : Pos} {keys : List (Option Expr)} {values : List Expr} {trs : List (DTE × DTE)} (h : DPs X pos keys values trs) (hall : keys.all (·.isSome) = true := by rfl) (hl : keys.length = values.length := by rfl) (h0 : keys ≠ [] := by exact List.cons_ne_nil _ _)
    (h15 : keys.length ≤ 15 := by decide) : DE X (.Dict keys values pos) (dDisp trs) := by
  refine (pe_disp h hall hl h0 h15).imp fun σ H Q ⟨ρ, G, q, r, h, k⟩ => fun p hp => ?_
  have e1 : Ext G H (updG G p (.dct [])) (upd H p (.dK [])) := Ext.newG hp
  have g1 : GOk X.K (updG G p (.dct [])) (upd H p (.dK [])) := r.gok.put e1 ⟨[], upd_same, rfl, repL_nil⟩
  refine pairs_up (r.ext e1 g1) (h p (r.gok.fresh hp)) fun qs ps H2 G2 e2 r2 v2 h2 => ?_
  obtain ⟨h3, h4⟩ := h2
  obtain ⟨ws, w1, w2, _⟩ := r2.gok p _ h3
  have ews : ws = [] := by simpa using w2
  subst ews
  refine ⟨w1, ?_⟩
  cases hk : keysD ps with
  | none => rw [hk] at h4; exact h4.elim
  | some kvs =>
    rw [hk] at h4
    obtain ⟨zs, z1, z2, z3⟩ := keys_rep v2 hk
    have hlen : zs.length = kvs.length := by simpa using congrArg List.length z2
    obtain ⟨m1, m2⟩ := merge_rep (acc := []) (bcc := []) z2 z3 rfl repL_nil
    have e3 : Ext G2 H2 (updG G2 p (.dct (mergeD [] kvs))) (upd H2 p (.dK (mergeK [] zs))) := Ext.write h3
    refine ⟨zs, z1, by rw [hlen]; exact h4.1, k _ _ _ _ ((e1.trans e2).trans e3) (r2.ext e3 (r2.gok.put e3 ⟨_, upd_same, m1, m2.ext e3⟩)) ref_rv h4.2⟩

end
section
variable {X : Cx} {k : Nat} {f : Addr} {fd : FuncData} {ps ks : List Str} {sp : DSp} {x : Str} {p pos : Pos} {kws : List Keyword} {tk : DTA} {nm : Option Str} {kpos : Pos} {e : Expr} {te : DTE}
theorem _root_.L2.PK.imp {t t' : TA} (h : PK X kws t) (i : ∀ σ H Q, t' σ H Q → t σ H Q) : PK X kws t' := ⟨fun pos pins s σ H Q I q => h.run pos pins s σ H Q I (i σ H Q q)⟩
abbrev DKw (X : Cx) (kws : List Keyword) (t : DTA) : Prop := PK X kws (upA X.K t)
theorem dk_nil : DKw X [] dNil := (pk_nil (X := X)).imp fun σ H Q ⟨ρ, G, q, r, h, k⟩ => k [] [] H G (Ext.refl G H) r repL_nil h
theorem dk_cons (he : DE X e te) (hr : DKw X kws tk) : DKw X (⟨nm, e, kpos⟩ :: kws) (dCons te tk) := by
  refine (pk_cons he hr).imp fun σ H Q ⟨ρ, G, q, r, h, k⟩ => ?_
  refine ⟨ρ, G, _, r, h, fun v d H1 G1 e1 r1 v1 h1 => ?_⟩
  refine ⟨ρ, G1, _, r1, h1, fun vs ds H2 G2 e2 r2 v2 h2 => ?_⟩
  exact k (v :: vs) (d :: ds) H2 G2 (e1.trans e2) r2 (repL_cons (v1.ext e2) v2) h2
@[simp] def dCallK (sp : DSp) (g : List D → List D) (tk : DTA) : DTE := fun ρ G Q => tk ρ G fun ds G1 => sp (g ds) G1 Q noX
structure KwB (K : PySem.W.Frag) (fd : FuncData) (ps ks : List Str) (g : {α : Type} → List α → List α) : Prop where
  to : ∀ (s : Shared) (ws : List Value), (g ws).length = ps.length → BindsTo s fd ⟨[], ks.zip ws⟩ (ps.zip (g ws))
  vals : ∀ {xs : List V} {us : List Value}, Vals xs us → Vals (g xs) (g us)
  reps : ∀ {G : GH} {H : Hp} {ds : List D} {xs : List V}, RepL K G H ds xs → RepL K G H (g ds) (g xs)
theorem de_callK {g : {α : Type} → List α → List α} (F : DFn X.prog X.w X.K X.mg X.base k f fd ps sp) (hr : Room k X.A) (hgd : X.A.guards = some []) (hg : Gl X x) (hm : X.mg x = some (.ref f)) (hk : PySem.W.keepIn X.K (.ref f) = true) (hb : KwB X.K fd ps ks g)
    (hkw : DKw X kws tk) (hall : (backToKw pos (keywordEach kws X.env)).all (·.1.isSome) = true := by rfl) (hks : (backToKw pos (keywordEach kws X.env)).filterMap (·.1) = ks := by rfl)
    (hdb : (x == ("__debug__" : Str)) = false := by decide) (hpl : ((backTo pos (starEach [] X.env)).any (·.1) || (backToKw pos (keywordEach kws X.env)).any (·.1.isNone)) = false := by rfl) : DE X (.Call (.Name x p) [] kws pos) (dCallK sp g tk) := by
  constructor
  intro pins s σ H Q I h
  obtain ⟨ρ, G, q, r, h, kk⟩ := h
  refine wpAny_Call_Name_kw (ld_glob I hg hm ?_ hdb)
  refine PySem.W.callWith_KW0 (h₀ := X.base) I.ok.mod.kin hk hall ?_ hpl
  refine thn (hkw.run pos pins s σ H (fun zs H1 => toSp X.K sp (g zs) H1 Q E0) I ⟨ρ, G, _, r, h, fun vs ds H1 G1 e1 r1 v1 h1 => ?_⟩) ?_
  · exact sp_at r1 (hb.reps v1) h1 fun v d H' G' e2 r2 v2 h2 => kk v d H' G' (e1.trans e2) r2 v2 h2
  · rintro us s1 ⟨zs, H1, I1, rz, q1⟩
    refine ⟨I1.kIn, ?_⟩
    rw [hks]
    have al : (g us).length = ps.length := (hb.vals rz).length.symm.trans (F.arity _ _ _ _ q1)
    refine wpAny_call (codeAny_mono (F.go X.A X.stack s1 H1 ⟨[], ks.zip us⟩ _ _ Q E0 hr hgd I1.env0 (hb.to s1 us al) (hb.vals rz) q1) ?_)
    intro res s2 hq
    match res, hq with
    | .error er, hq => exact hq.elim
    | .ok (.ret u), hq => exact I1.after hq
end

section
variable {X : Cx}
end
end Dl

namespace Dl
open PySem L2
section
open AutoSeq1 (wpAny_loadPart')
theorem enum_new_tuple (t : Addr) (items : Array Value) (n : Nat) (dct : Option Addr) (sl : Array (Option Value)) :
    Meets (Builtin.«enumerate.__new__» ⟨[.type "enumerate", .ref t], []⟩) (fun _ R s => s.heap.get? t = some { cls := .type "tuple", dict := dct, data := .seq items n, slots := sl } ∧
      R (.ok (.ret (.ref (s.heap.push { cls := .type "tuple_iterator", data := .fields #[.ref t, .int 0 0] }).objs.size)))
        { s with heap := (s.heap.push { cls := .type "tuple_iterator", data := .fields #[.ref t, .int 0 0] }).push { cls := .type "enumerate", data := .fields #[.none, .bool false, .ref s.heap.objs.size, rawInt 0, .none, .none] } }) :=
  .of_wp fun prog w A R st hh => by
    obtain ⟨hp, gg, dr, tk, os⟩ := st
    obtain ⟨hl, hR⟩ := hh
    have hsub := sub_enumerate
    have hT : Heap.IsTuple (Shared.heap ⟨hp, gg, dr, tk, os⟩) t items := ⟨_, hl, rfl, n, rfl⟩
    wp_walk using wpAny_loadPart' hl
    refine wpAny_stack_any fun stk => wpAny_pure ?_
    split
    · rename_i c _ _ _ _ _
      cases (c == Value.type "enumerate") <;> (wp_walk using wpAny_loadPart' hl, wpAny_pyIter_tuple hT; exact ⟨_, rfl, hR⟩)
    · wp_walk using wpAny_loadPart' hl, wpAny_pyIter_tuple hT
      exact ⟨_, rfl, hR⟩
theorem call_enum_tuple {prog : Program} {w : World} {A : Around} {E : Value → Shared → Prop} {s : Shared} {t : Addr} {items : Array Value} {Q : Value → Shared → Prop} (hT : s.heap.IsTuple t items)
    (h : ∀ h', IsEnum h' (s.heap.objs.size + 1) s.heap.objs.size 0 .none → h'.IsTupleIter s.heap.objs.size t 0 → h'.objs.size = s.heap.objs.size + 2 →
      (∀ b o, s.heap.get? b = some o → h'.get? b = some o) → Q (.ref (s.heap.objs.size + 1)) { s with heap := h' }) : wpAny (model prog w) A (PySem.call (.type "enumerate") [.ref t]) Q E s := by
  obtain ⟨⟨c, dct, dt, sl⟩, hl, hc, n, hd⟩ := hT
  simp only at hc hd
  subst hc hd
  refine callType_new F.called_enumerate (by decide) (F.typeCall_enumerate_1 _) (F.newCall_enumerate_1 _) (fun obj => F.args_object_init_2 obj _) F.entry_enumerate_new (enum_new_tuple t items n dct sl) ⟨hl, ?_⟩
  have sz : (s.heap.push { cls := .type "tuple_iterator", data := .fields #[.ref t, .int 0 0] }).objs.size = s.heap.objs.size + 1 := Heap.size_push ..
  have top := Heap.get?_push_size (s.heap.push { cls := .type "tuple_iterator", data := .fields #[.ref t, .int 0 0] }) (o := { cls := .type "enumerate", data := .fields #[.none, .bool false, .ref s.heap.objs.size, rawInt 0, .none, .none] }) rfl
  rw [sz] at top
  show _ ∧ _
  rw [sz]
  exact ⟨⟨_, top, rfl⟩, h _ top ⟨_, Heap.get?_push_of_some _ (Heap.get?_push_size _ rfl), rfl, rfl⟩ (by rw [Heap.size_push, sz]) fun b o q => Heap.get?_push_of_some _ (Heap.get?_push_of_some _ q)⟩
end
def Iet (K : PySem.W.Frag) (a : Addr) : It where
  go := fun i H => ∃ (xs : List V) (x : V), SqT K H a xs ∧ xs[i]? = some x
  yld := fun i H v H' => ∃ T x, v = .ref T ∧ H T = none ∧ H' = upd H T (.tup [.int (i : Nat), x]) ∧ ∀ xs, SqT K H a xs → xs[i]? = some x
  stop := fun i H => ∃ xs : List V, SqT K H a xs ∧ xs.length = i
theorem turn_enumT {P : Program} {w : World} {K : PySem.W.Frag} {elts : List Expr} {kk : Nat} {tpos : Pos} (a e it : Addr) :
    Turn P w K (.Tuple elts kk tpos) (Iet K a) [e, it] e (fun i h => (∃ old, IsEnum h e it ((i : Nat) : Int) old) ∧ h.IsTupleIter it a i ∧ e ≠ it) where
  mem := by simp
  obj := by
    rintro i h ⟨⟨old, he⟩, ⟨o, ho, hc, hd⟩, _⟩ b hb
    rcases (by simpa using hb : b = e ∨ b = it) with rfl | rfl
    · exact ⟨_, he, fun v q => nomatch q⟩
    · exact ⟨o, ho, fun v q => by rw [hd] at q; cases q⟩
  keep := by
    rintro i h h' ⟨⟨old, he⟩, hi, hne⟩ k
    exact ⟨⟨old, k e (by simp) _ he⟩, hi.at fun o q => k it (by simp) o q, hne⟩
  item := by
    rintro X rfl rfl rfl hc i pins s σ H E I hf ⟨⟨old, he⟩, hit, hne⟩ ⟨xs, x, hq, hx⟩
    obtain ⟨its, rv, tp, hz⟩ := I.tuple hq
    obtain ⟨u, hu, ru⟩ := rv.get hx
    have hel : e < s.heap.objs.size := Heap.lt_size he
    have hil : it < s.heap.objs.size := by obtain ⟨_, q, _⟩ := hit; exact Heap.lt_size q
    have htp : s.heap.IsTuple a its.toArray := tp
    have hai : a ≠ it := by
      rintro rfl
      obtain ⟨o1, q1, c1, _⟩ := htp
      obtain ⟨o2, q2, c2, _⟩ := hit
      rw [q1] at q2
      cases q2
      rw [c1] at c2
      simp at c2
    have hae : a ≠ e := by
      rintro rfl
      obtain ⟨o1, q1, c1, _⟩ := htp
      have q2 : s.heap.get? a = some _ := he
      rw [q1] at q2
      cases q2
      simp at c1
    have hlt : i < its.toArray.size := by
      have := (List.getElem?_eq_some_iff.mp hu).1
      simpa using this
    refine wpAny_pyNext_enum_itemC (Draws.tuple (show X.A.in1.handled = none from I.ok.hd hc) it a hai its.toArray) he ⟨hit, htp⟩ hlt hne (by simp [hne, hae.symm]) ?_
    intro y h' tk hy ho hst hT hsz hk
    have ey : y = u := by
      have hy2 : its.toArray[i]? = some y := hy
      rw [show its.toArray[i]? = its[i]? by simp] at hy2
      rw [hu] at hy2
      exact (Option.some.inj hy2).symm
    subst ey
    refine ⟨_, rfl, wpAny_letOwnedTupleGo_enum (s := { s with heap := h', toks := tk + 1 }) ho fun h2 he2 sb => ?_⟩
    have hT2 : h2.get? s.heap.objs.size = some { cls := .type "tuple", data := .seq #[.int i tk, y] } := (sb.2 _ (Nat.ne_of_gt hel)).trans hT
    have new : ObjOk X.prog X.w (upd H s.heap.objs.size (.tup [.int (i : Nat), x])) h2 s.heap.objs.size (.tup [.int (i : Nat), x]) :=
      ⟨by show 2 ≤ sizeLine; decide, [.int i tk, y], .cons ⟨_, rfl⟩ (.cons ru .nil), ⟨_, hT2, rfl, _, rfl⟩⟩
    have I1 : Inv X pins σ (upd H s.heap.objs.size (.tup [.int (i : Nat), x])) { s with heap := h2, toks := tk + 1 } :=
      I.turnedNew (ch := [e, it]) (fun b ob hb q => (sb.2 b (fun z => hb (by simp [z]))).trans (hk b ob (fun z => hb (by simp [z])) (fun z => hb (by simp [z])) q)) hf (Nat.le_refl _) new
    refine ⟨.ref s.heap.objs.size, _, I1, rfl, ⟨_, x, rfl, I.hok.fresh (Nat.le_refl _), rfl, fun ys hy => by rw [I.tuple_inj hy hq]; exact hx⟩, ⟨⟨y, ?_⟩, hst.1.at fun o q => (sb.2 it (Ne.symm hne)).trans q, hne⟩, fun b hb => ?_⟩
    · have e1 : ((i + 1 : Nat) : Int) = (i : Int) + 1 := by omega
      rw [e1]
      exact he2
    · have hb2 : b < s.heap.objs.size := by
        rcases (by simpa using hb : b = e ∨ b = it) with rfl | rfl
        · exact hel
        · exact hil
      rw [upd_ne (Nat.ne_of_lt hb2)]
      exact (hf b hb).1
  done := by
    rintro X rfl rfl rfl hc i pins s σ H E I hf ⟨⟨old, he⟩, hit, hne⟩ ⟨xs, hq, hx⟩
    obtain ⟨its, rv, tp, hz⟩ := I.tuple hq
    obtain ⟨f0, f1, f2, f3, f4, f5⟩ := hf it (by simp)
    have htp : s.heap.IsTuple a its.toArray := tp
    have hai : a ≠ it := by
      rintro rfl
      obtain ⟨o1, q1, c1, _⟩ := htp
      obtain ⟨o2, q2, c2, _⟩ := hit
      rw [q1] at q2
      cases q2
      rw [c1] at c2
      simp at c2
    have hl : its.toArray.size = i := by rw [List.size_toArray, ← rv.length]; exact hx
    subst hl
    exact wpAny_pyNext_enum_endD (Draws.tuple (show X.A.in1.handled = none from I.ok.hd hc) it a hai its.toArray) he ⟨hit, htp⟩ fun h' eb => ⟨rfl, I.turned (t' := s.toks) (fun b o hb q => eb b o hb q) f0 f1 f3 f4 f5⟩
  self := by
    rintro A i s Q E ⟨⟨_, he⟩, _⟩ h
    exact wpAny_pyIter_enum he h
section
variable {X : Cx}
def iEnumT (K : PySem.W.Frag) (ta : TA) : TI := fun σ H R => ta σ H fun vs H1 => ∃ a xs, vs = [.ref a] ∧ SqT K H1 a xs ∧ R (Iet K a) H1
theorem pi_enumT {e : Expr} {ta : TA} {p pos tpos : Pos} {elts : List Expr} {kk : Nat} (hg : Gl X "enumerate") (hm : X.mg "enumerate" = none) (ha : PA X [e] ta) (hs : starEach [e] X.env = [(false, eval e X.env)] := by rfl) :
    PI X (.Tuple elts kk tpos) (.Call (.Name "enumerate" p) [e] [] pos) (iEnumT X.K ta) := by
  constructor
  intro pins s σ H R I h
  refine PyProof.Rows.Call_ (ld_blt I hg hm PyProof.Rows.boot_enumerate (PyProof.Rows.callWith_type1 (thn (ha.run pos pins s σ H _ I h) ?_) hs rfl))
  rintro us s1 ⟨vs, H1, I1, r1, a, xs, rfl, hq, q⟩
  obtain ⟨u, rfl, ru⟩ := vals1 r1
  cases ru
  obtain ⟨its, rv, tp, hz⟩ := I1.tuple hq
  refine call_enum_tuple (show s1.heap.IsTuple a its.toArray from tp) fun h' he hit hsz hk => wpAny_pyIter_enum he ?_
  have I2 : Inv X pins σ H1 { s1 with heap := h' } := I1.kept (t' := s1.toks) hk
  refine ⟨s1.heap.objs.size + 1, [s1.heap.objs.size + 1, s1.heap.objs.size], _, _, H1, rfl, I2, turn_enumT a (s1.heap.objs.size + 1) s1.heap.objs.size, ⟨⟨.none, he⟩, hit, Nat.succ_ne_self _⟩, fun b hb => ?_, q⟩
  have hle : s1.heap.objs.size ≤ b := by
    rcases (by simpa using hb : b = s1.heap.objs.size + 1 ∨ b = s1.heap.objs.size) with rfl | rfl
    · exact Nat.le_add_right _ _
    · exact Nat.le_refl _
  exact I1.fpOk hle (I1.hok.fresh hle)
end
def enumD (ds : List D) : List D := (List.range ds.length).map fun i => D.tup [.int (i : Nat), ds.getD i .non]
theorem enumD_get {ds : List D} {i : Nat} {d : D} (h : (enumD ds)[i]? = some d) : ∃ x, ds[i]? = some x ∧ d = .tup [.int (i : Nat), x] := by
  unfold enumD at h
  rw [List.getElem?_map] at h
  by_cases hi : i < ds.length
  · rw [List.getElem?_range hi] at h
    simp only [Option.map_some, Option.some.injEq] at h
    exact ⟨ds[i], List.getElem?_eq_getElem hi, by rw [← h]; simp [hi]⟩
  · rw [List.getElem?_eq_none (by simpa using hi)] at h
    simp at h
theorem enumD_len (ds : List D) : (enumD ds).length = ds.length := by simp [enumD]
@[simp] def iEnT (te : DTE) : DTI := fun ρ G Q => te ρ G fun d G1 => match d with
  | .tup ds => Q (enumD ds) okAll G1
  | _ => False
section
variable {X : Cx}
theorem di_enumT {e : Expr} {te : DTE} {p pos tpos : Pos} {elts : List Expr} {kk : Nat} (hg : Gl X "enumerate") (hm : X.mg "enumerate" = none) (he : DE X e te) (hs : starEach [e] X.env = [(false, eval e X.env)] := by rfl) :
    DI X (.Tuple elts kk tpos) (.Call (.Name "enumerate" p) [e] [] pos) (iEnT te) := by
  refine (pi_enumT hg hm (pa_cons he pa_nil (by rw [hs]; rfl)) hs).imp fun σ H R ⟨ρ, G, q, r, h, k⟩ => ?_
  refine ⟨ρ, G, _, r, h, fun v d H1 G1 e1 r1 v1 h1 => ?_⟩
  cases d with
  | tup ds =>
    unfold RepV at v1
    obtain ⟨a, xs, rfl, ta, rl⟩ := v1
    refine ⟨a, xs, rfl, ta.sq, k _ (enumD ds) okAll H1 G1 e1 r1 (fun G2 H2 e2 g2 _ i => ⟨fun d hd => ?_, fun hi => ⟨xs, (ta.ext e2).sq, by rw [rl.length, hi, enumD_len]⟩⟩) h1⟩
    obtain ⟨x, hx, rfl⟩ := enumD_get hd
    obtain ⟨w, hw, rw'⟩ := (rl.ext e2).get hx
    refine ⟨⟨xs, w, (ta.ext e2).sq, hw⟩, fun y H3 hy => ?_⟩
    obtain ⟨T, z, rfl, hT, rfl, hz⟩ := hy
    have ez := hz xs (ta.ext e2).sq
    rw [hw] at ez
    cases ez
    obtain ⟨e3, g3, v3⟩ := new_tup g2 hT (repL_cons (int_rv (i := (i : Nat))) (repL_one rw'))
    exact ⟨e3, g3, v3⟩
  | _ => exact h1.elim
end
end Dl

namespace Dl
open PySem PySem.Spec PyProof.Rows L2

end Dl

namespace Dl
open PySem L2

@[simp] def dNeg (te : DTE) : DTE := fun ρ G Q => te ρ G fun d G1 => match d with
  | .int i => Q (.int (-i)) G1
  | _ => False
section
variable {X : Cx}
theorem de_neg {a : Expr} {ta : DTE} {pos : Pos} (h : DE X a ta) : DE X (.UnaryOp .USub a pos) (dNeg ta) := by
  refine (pe_un un_neg h).imp fun σ H Q ⟨ρ, G, q, r, h, k⟩ => ?_
  refine ⟨ρ, G, _, r, h, fun v d H1 G1 e1 r1 v1 h1 => ?_⟩
  cases d with
  | int i => cases rv_int v1; exact ⟨i, rfl, k _ _ H1 G1 e1 r1 int_rv h1⟩
  | _ => exact h1.elim

theorem pi_seq {tg l : Expr} {tl : TE} (hl : PE X l tl) : PI X tg l (fun σ H R => tl σ H fun x H1 => (∃ a, x = .ref a ∧ (∃ xs, SqL X.K H1 a xs) ∧ R (Itl X.K a) H1) ∨ ∃ a, x = .ref a ∧ (∃ xs, SqT X.K H1 a xs) ∧ R (Itt X.K a) H1) := by
  constructor
  intro pins s σ H R I h
  refine thn (hl.run pins s σ H _ I h) ?_
  rintro v s1 ⟨x, H1, I1, r1, q1⟩
  have fp : ∀ b ∈ [s1.heap.objs.size], FpOk X pins H1 b := by
    intro b hb
    obtain rfl : b = s1.heap.objs.size := by simpa using hb
    exact I1.fpOk (Nat.le_refl _) (I1.hok.fresh (Nat.le_refl _))
  rcases q1 with ⟨a, rfl, ⟨xs, hq⟩, q⟩ | ⟨a, rfl, ⟨xs, hq⟩, q⟩
  · cases r1
    obtain ⟨its, rv, p, hz⟩ := I1.list hq
    exact wpAny_pyIter_list p.isList ⟨_, [s1.heap.objs.size], _, _, H1, rfl, I1.kept (t' := s1.toks) (fun b o e => Heap.get?_push_of_some _ e), turn_list a _, ⟨_, Heap.get?_push_size _ rfl, rfl, rfl⟩, fp, q⟩
  · cases r1
    obtain ⟨its, rv, p, hz⟩ := I1.tuple hq
    exact wpAny_pyIter_tuple (show s1.heap.IsTuple a its.toArray from p) ⟨_, [s1.heap.objs.size], _, _, H1, rfl, I1.kept (t' := s1.toks) (fun b o e => Heap.get?_push_of_some _ e), turn_tuple a _, ⟨_, Heap.get?_push_size _ rfl, rfl, rfl⟩, fp, q⟩
@[simp] def iSq (te : DTE) : DTI := fun ρ G Q => te ρ G fun d G1 => match d with
  | .tup ds => Q ds okAll G1
  | .lst ds => Q ds okAll G1
  | .ref a => (match G1 a with
    | some (.lst ds) => Q ds (fun G => G a = some (.lst ds)) G1
    | _ => False)
  | _ => False
theorem di_seq {tg e : Expr} {te : DTE} (he : DE X e te) : DI X tg e (iSq te) := by
  refine (pi_seq he).imp fun σ H R ⟨ρ, G, q, r, h, k⟩ => ?_
  refine ⟨ρ, G, _, r, h, fun v d H1 G1 e1 r1 v1 h1 => ?_⟩
  cases d with
  | tup ds =>
    unfold RepV at v1
    obtain ⟨a, xs, rfl, ta, rl⟩ := v1
    refine .inr ⟨a, rfl, ⟨xs, ta.sq⟩, k _ ds okAll H1 G1 e1 r1 (fun G2 H2 e2 g2 _ i => ⟨fun d hd => ?_, fun hi => ⟨xs, (ta.ext e2).sq, by rw [rl.length]; exact Nat.le_of_eq hi.symm⟩⟩) h1⟩
    obtain ⟨x, hx, rx⟩ := (rl.ext e2).get hd
    refine ⟨⟨xs, x, (ta.ext e2).sq, hx⟩, fun y H3 hy => ?_⟩
    obtain ⟨rfl, hy⟩ := hy
    have e := hy xs (ta.ext e2).sq
    rw [hx] at e
    cases e
    exact ⟨Ext.refl _ _, g2, rx⟩
  | lst ds =>
    unfold RepV at v1
    obtain ⟨a, xs, rfl, ta, rl⟩ := v1
    refine .inl ⟨a, rfl, ⟨xs, ta.sq⟩, k _ ds okAll H1 G1 e1 r1 (fun G2 H2 e2 g2 _ i => ⟨fun d hd => ?_, fun hi => ⟨xs, (ta.ext e2).sq, by rw [rl.length]; exact Nat.le_of_eq hi.symm⟩⟩) h1⟩
    obtain ⟨x, hx, rx⟩ := (rl.ext e2).get hd
    refine ⟨⟨xs, x, (ta.ext e2).sq, hx⟩, fun y H3 hy => ?_⟩
    obtain ⟨rfl, hy⟩ := hy
    have e := hy xs (ta.ext e2).sq
    rw [hx] at e
    cases e
    exact ⟨Ext.refl _ _, g2, rx⟩
  | ref a =>
    cases rv_ref v1
    dsimp only at h1
    cases hg : G1 a with
    | none => rw [hg] at h1; exact h1.elim
    | some o =>
      rw [hg] at h1
      cases o with
      | lst ds =>
        obtain ⟨xs, hx, rx⟩ := r1.gok a _ hg
        refine .inl ⟨a, rfl, ⟨xs, SqL.of hx⟩, k _ ds (fun G => G a = some (.lst ds)) H1 G1 e1 r1 (fun G2 H2 e2 g2 ho i => ?_) h1⟩
        obtain ⟨ys, hy, ry⟩ := g2 a _ ho
        refine ⟨fun d hd => ?_, fun hi => ⟨ys, SqL.of hy, by rw [ry.length]; exact Nat.le_of_eq hi.symm⟩⟩
        obtain ⟨x, hx, rx⟩ := ry.get hd
        refine ⟨⟨ys, x, SqL.of hy, hx⟩, fun z H3 hz => ?_⟩
        obtain ⟨rfl, hz⟩ := hz
        have e := hz ys (SqL.of hy)
        rw [hx] at e
        cases e
        exact ⟨Ext.refl _ _, g2, rx⟩
      | dct _ => exact h1.elim
      | raw _ => exact h1.elim
      | ins _ _ => exact h1.elim
      | dtp _ => exact h1.elim
      | tab _ => exact h1.elim
      | slt _ _ => exact h1.elim
  | _ => exact h1.elim

end

structure Callee (P : Program) (w : World) (K : PySem.W.Frag) (mg : Str → Option Value) (base : Heap) (k : Nat) (x : Str) (ps : List Str) (sp : DSp) : Prop where
  ex : ∃ f fd, DFn P w K mg base k f fd ps sp ∧ mg x = some (.ref f) ∧ PySem.W.keepIn K (.ref f) = true ∧ Binds K fd ps [] ∧ KwB K fd ps ps (fun l => l)
theorem Callee.up {P : Program} {w : World} {K : PySem.W.Frag} {mg : Str → Option Value} {base : Heap} {j k : Nat} {x : Str} {ps : List Str} {sp : DSp} (C : Callee P w K mg base j x ps sp) (h : j ≤ k) : Callee P w K mg base k x ps sp := by
  obtain ⟨f, fd, F, a⟩ := C.ex
  exact ⟨f, fd, F.up h, a⟩
section
variable {X : Cx} {k : Nat} {x : Str} {ps : List Str} {sp : DSp} {p pos : Pos} {e : Expr} {es : List Expr} {ta : DTA} {kws : List Keyword}
theorem dc (C : Callee X.prog X.w X.K X.mg X.base k x ps sp) (hr : Room k X.A) (hgd : X.A.guards = some []) (hg : Gl X x) (ha : DA X (e :: es) ta) (hdb : (x == ("__debug__" : Str)) = false := by decide)
    (he : starEach (e :: es) X.env = (false, eval e X.env) :: starEach es X.env := by rfl) (hpl : (backTo pos (starEach es X.env)).any (·.1) = false := by rfl) : DE X (.Call (.Name x p) (e :: es) [] pos) (dCall sp ta) := by
  obtain ⟨f, fd, F, hm, hk, hb, _⟩ := C.ex
  exact de_call F hr hgd hg hm hk hb ha hdb he hpl
theorem dc0 (C : Callee X.prog X.w X.K X.mg X.base k x ps sp) (hr : Room k X.A) (hgd : X.A.guards = some []) (hg : Gl X x) (hdb : (x == ("__debug__" : Str)) = false := by decide) : DE X (.Call (.Name x p) [] [] pos) (dCall sp dNil) := by
  obtain ⟨f, fd, F, hm, hk, hb, _⟩ := C.ex
  exact de_call0 F hr hgd hg hm hk hb hdb
theorem dck (C : Callee X.prog X.w X.K X.mg X.base k x ps sp) (hr : Room k X.A) (hgd : X.A.guards = some []) (hg : Gl X x) (hkw : DKw X kws ta) (hall : (backToKw pos (keywordEach kws X.env)).all (·.1.isSome) = true := by rfl)
    (hks : (backToKw pos (keywordEach kws X.env)).filterMap (·.1) = ps := by rfl) (hdb : (x == ("__debug__" : Str)) = false := by decide)
    (hpl : ((backTo pos (starEach [] X.env)).any (·.1) || (backToKw pos (keywordEach kws X.env)).any (·.1.isNone)) = false := by rfl) : DE X (.Call (.Name x p) [] kws pos) (dCall sp ta) := by
  obtain ⟨f, fd, F, hm, hk, _, hb⟩ := C.ex
  exact de_callK (g := fun l => l) F hr hgd hg hm hk hb hkw hall hks hdb hpl
theorem callee_of {P : Program} {w : World} {K : PySem.W.Frag} {mg : Str → Option Value} {base : Heap} {qual : Str} {params : Arguments} {body : List Stmt} {scope : Scope} {f : Addr} {fd : FuncData}
    (F : FunD K x qual params body scope [] [] f fd) (hm : mg x = some (.ref f)) (D : DFn P w K mg base k f fd ps sp)
    (b1 : ∀ (kV doc pm : Value) (an : Option Addr) (cdv ct : Value) (us : List Value), us.length = ps.length → bindArgs (PySem.W.fnOf x qual params body scope .none kV doc pm an cdv ct) ⟨us, []⟩ = pure (ps.zip us))
    (b2 : ∀ (kV doc pm : Value) (an : Option Addr) (cdv ct : Value) (us : List Value), us.length = ps.length → bindArgs (PySem.W.fnOf x qual params body scope .none kV doc pm an cdv ct) ⟨[], ps.zip us⟩ = pure (ps.zip us)) : Callee P w K mg base k x ps sp := by
  refine ⟨f, fd, D, hm, F.kp, F.bindsN b1, ⟨?_, fun r => r, fun r => r⟩⟩
  intro s ws hl
  obtain ⟨oc, od, dV, kV, doc, pm, an, cdv, ct, osl, rfl, lk, hcd, hD, hK⟩ := F.ex
  rcases hD with ⟨_, rfl⟩ | ⟨e, _⟩
  · exact .of_eq (b2 kV doc pm an cdv ct ws hl)
  · exact absurd rfl e
end

mutual
def repB (K : PySem.W.Frag) : D → Value → Bool
  | .non, u => (match u with
    | .none => true
    | _ => false)
  | .bl b, u => (match u with
    | .bool c => b == c
    | _ => false)
  | .int i, u => (match u with
    | .int j _ => decide (i = j)
    | _ => false)
  | .str x, u => (match u with
    | .str y _ => decide (x = y)
    | _ => false)
  | .tup ds, u => (match u with
    | .ref a => (match K.lookup a with
      | some ⟨.type c, _, .seq its _, _⟩ => decide (c = "tuple") && (decide (its.size ≤ sizeLine) && ((!ds.isEmpty || kempB K) && repBs K ds its.toList))
      | _ => false)
    | _ => false)
  | _, _ => false
def repBs (K : PySem.W.Frag) : List D → List Value → Bool
  | [], [] => true
  | d :: ds, u :: us => repB K d u && repBs K ds us
  | _, _ => false
end
mutual
theorem repB_ok {K : PySem.W.Frag} : ∀ {d : D} {u : Value}, repB K d u = true → ∃ v, RelV v u ∧ ∀ G H, RepV K G H d v
  | .non, u, h => by
    unfold repB at h
    cases u with
    | none => exact ⟨.non, rfl, fun _ _ => non_rv⟩
    | _ => cases h
  | .bl b, u, h => by
    unfold repB at h
    cases u with
    | bool c => exact ⟨.bl c, rfl, fun _ _ => by rw [eq_of_beq h]; exact bl_rv⟩
    | _ => cases h
  | .int i, u, h => by
    unfold repB at h
    cases u with
    | int j t => exact ⟨.int i, ⟨t, by rw [of_decide_eq_true h]⟩, fun _ _ => int_rv⟩
    | _ => cases h
  | .str i, u, h => by
    unfold repB at h
    cases u with
    | str j t => exact ⟨.str i, ⟨t, by rw [of_decide_eq_true h]⟩, fun _ _ => str_rv⟩
    | _ => cases h
  | .tup ds, u, h => by
    unfold repB at h
    cases u with
    | ref a =>
      dsimp only at h
      cases q : K.lookup a with
      | none => rw [q] at h; cases h
      | some o =>
        obtain ⟨oc, od, dt, osl⟩ := o
        rw [q] at h
        cases oc with
        | type c =>
          cases dt with
          | seq its n =>
            dsimp only at h
            rw [Bool.and_eq_true, Bool.and_eq_true, Bool.and_eq_true] at h
            obtain ⟨h1, h2, h0, h3⟩ := h
            obtain ⟨xs, rl, rp⟩ := repBs_ok h3
            refine ⟨.ref a, rfl, fun G H => ?_⟩
            have hx : xs = [] → kempB K = true := fun hx => by
              cases ds with
              | nil => simpa using h0
              | cons d ds =>
                have z := rp G H
                unfold RepL at z
                obtain ⟨_, _, e, _⟩ := z
                rw [hx] at e; cases e
            unfold RepV
            exact ⟨a, xs, rfl, .inr ⟨hx, _, its, n, q, by rw [of_decide_eq_true h1], rfl, of_decide_eq_true h2, rl⟩, rp G H⟩
          | _ => cases h
        | _ => cases dt <;> cases h
    | _ => cases h
  | .byt _, u, h => by unfold repB at h; cases h
  | .lst _, u, h => by unfold repB at h; cases h
  | .ref _, u, h => by unfold repB at h; cases h
  | .scr _, u, h => by unfold repB at h; cases h
theorem repBs_ok {K : PySem.W.Frag} : ∀ {ds : List D} {us : List Value}, repBs K ds us = true → ∃ xs, Vals xs us ∧ ∀ G H, RepL K G H ds xs
  | [], [], _ => ⟨[], .nil, fun _ _ => repL_nil⟩
  | [], _ :: _, h => by unfold repBs at h; cases h
  | _ :: _, [], h => by unfold repBs at h; cases h
  | d :: ds, u :: us, h => by
    unfold repBs at h
    rw [Bool.and_eq_true] at h
    obtain ⟨v, r1, p1⟩ := repB_ok h.1
    obtain ⟨xs, r2, p2⟩ := repBs_ok h.2
    exact ⟨v :: xs, .cons r1 r2, fun G H => repL_cons (p1 G H) (p2 G H)⟩
end
inductive Fx where
  | glo (x : Str)
  | free (x : Str)
  | dat (x : Str) (d : D)
  /-- a fact of a class -/
  | fa (f : He.Fa)
  /-- any other look at the written part -/
  | kb (f : PySem.W.Frag → Bool)
def Fx.ok (K : PySem.W.Frag) : Fx → Bool
  | .glo x => (He.Fa.glo x).ok K
  | .free x => (He.Fa.free x).ok K
  | .dat x d => (match PySem.W.nsIn K mainGlobals x with
    | some (some u) => repB K d u
    | _ => false)
  | .fa f => f.ok K
  | .kb f => f K
theorem dat_ok {K : PySem.W.Frag} {h : Heap} {mg : Str → Option Value} (X : K.In h) (G : h.Ns mainGlobals mg) {x : Str} {d : D} (c : (Fx.dat x d).ok K = true) : ∃ u, mg x = some u ∧ ∃ v, RelV v u ∧ ∀ G H, RepV K G H d v := by
  have c2 : (match PySem.W.nsIn K mainGlobals x with
    | some (some u) => repB K d u
    | _ => false) = true := c
  cases e : PySem.W.nsIn K mainGlobals x with
  | none => rw [e] at c2; cases c2
  | some o =>
    rw [e] at c2
    cases o with
    | none => cases c2
    | some u => exact ⟨u, PySem.W.mg_of X G e, repB_ok c2⟩
def obsX (fx : List Fx) (fn : List He.DefD) (K : PySem.W.Frag) : He.AlD := ((fx.all fun f => f.ok K) && fn.all fun d => d.ok K, fn.map fun d => He.fnW K d.at_)
def SaysX (fx : List Fx) (fn : List He.DefD) (K : PySem.W.Frag) : Prop := obsX fx fn K = He.valD fn
section
variable {fx : List Fx} {fn : List He.DefD} {K : PySem.W.Frag}
theorem SaysX.fact (c : SaysX fx fn K) (i : Nat) {f : Fx} (h : fx[i]? = some f := by rfl) : f.ok K = true := by
  have c1 := (He.ba (show ((fx.all fun f => f.ok K) && fn.all fun d => d.ok K) = true from congrArg (fun z : He.AlD => z.1) c)).1
  exact List.all_eq_true.mp c1 f (List.mem_of_getElem? h)
theorem SaysX.def_ (c : SaysX fx fn K) (i : Nat) {d : He.DefD} (h : fn[i]? = some d := by rfl) : ∃ fd, FunD K d.name d.qual d.params d.body d.scope (d.dvs K) (d.kws K) (He.fAd K d.at_) fd := by
  have c2 := (He.ba (show ((fx.all fun f => f.ok K) && fn.all fun d => d.ok K) = true from congrArg (fun z : He.AlD => z.1) c)).2
  have e : fn.map (fun d => He.fnW K d.at_) = fn.map He.DefD.val := congrArg (fun z : He.AlD => z.2) c
  have e2 : (fn.map fun d => He.fnW K d.at_)[i]? = (fn.map He.DefD.val)[i]? := by rw [e]
  rw [List.getElem?_map, List.getElem?_map, h] at e2
  exact He.DefD.funD (Option.some.inj e2) (List.all_eq_true.mp c2 d (List.mem_of_getElem? h))
end
end Dl

namespace Dl
open PySem L2

abbrev DZ := DX → DSt → GH → Prop
abbrev XTE := DZ → DTE
abbrev XTA := DZ → DTA
abbrev XTT := DZ → DTT
abbrev XTS := DZ → DTS
def ZOk (K : PySem.W.Frag) (W : WX) (G : GH) (H : Hp) (Z : DZ) : Prop := ∀ x c od σ' H' ρ' G', Ext G H G' H' → DRel K σ' H' ρ' G' → ExcRep K G' H' x c od → Z x ρ' G' → W c od σ' H'
theorem ZOk.ext {K : PySem.W.Frag} {W : WX} {G G1 : GH} {H H1 : Hp} {Z : DZ} (z : ZOk K W G H Z) (e : Ext G H G1 H1) : ZOk K W G1 H1 Z := fun x c od σ' H' ρ' G' e2 => z x c od σ' H' ρ' G' (e.trans e2)
def upX (K : PySem.W.Frag) (W : WX) (t : XTE) : TE := fun σ H Qv => ∃ ρ G Q Z, DRel K σ H ρ G ∧ t Z ρ G Q ∧ (∀ v d H' G', Ext G H G' H' → DRel K σ H' ρ G' → RepV K G' H' d v → Q d G' → Qv v H') ∧ ZOk K W G H Z
def upXT (K : PySem.W.Frag) (W : WX) (t : XTT) : TT := fun σ H Qv => ∃ ρ G Q Z, DRel K σ H ρ G ∧ t Z ρ G Q ∧ (∀ b H' G', Ext G H G' H' → DRel K σ H' ρ G' → Q b G' → Qv b H') ∧ ZOk K W G H Z
def upXA (K : PySem.W.Frag) (W : WX) (t : XTA) : TA := fun σ H Qv => ∃ ρ G Q Z, DRel K σ H ρ G ∧ t Z ρ G Q ∧ (∀ vs ds H' G', Ext G H G' H' → DRel K σ H' ρ G' → RepL K G' H' ds vs → Q ds G' → Qv vs H') ∧ ZOk K W G H Z
def upXS (K : PySem.W.Frag) (W : WX) (t : XTS) : TS := fun Dv σ H => ∃ (ρ : DSt) (G : GH) (E : DEnds) (Z : DZ), DRel K σ H ρ G ∧ t Z E ρ G ∧
  (∀ σ' ρ' H' G', Ext G H G' H' → DRel K σ' H' ρ' G' → E.nx ρ' G' → Dv.nx σ' H') ∧
  (∀ v d H' G', Ext G H G' H' → GOk K G' H' → RepV K G' H' d v → E.rt d G' → Dv.rt v H') ∧
  (∀ σ' ρ' H' G', Ext G H G' H' → DRel K σ' H' ρ' G' → E.bk ρ' G' → Dv.bk σ' H') ∧
  (∀ σ' ρ' H' G', Ext G H G' H' → DRel K σ' H' ρ' G' → E.ct ρ' G' → Dv.ct σ' H') ∧ ZOk K W G H Z
abbrev XE1 (X : Cx) (W : WX) (e : Expr) (t : XTE) : Prop := PE X e (upX X.K W t)
abbrev XT1 (X : Cx) (W : WX) (e : Expr) (t : XTT) : Prop := PT X e (upXT X.K W t)
abbrev XA1 (X : Cx) (W : WX) (es : List Expr) (t : XTA) : Prop := PA X es (upXA X.K W t)
abbrev XS1 (X : Cx) (W : WX) (st : Stmt) (t : XTS) : Prop := PS X st (upXS X.K W t)
abbrev XSs (X : Cx) (W : WX) (sts : List Stmt) (t : XTS) : Prop := PSs X sts (upXS X.K W t)

section
variable {X : Cx} {W : WX}
@[simp] def xPe (t : DTE) : XTE := fun _ => t
@[simp] def xPa (t : DTA) : XTA := fun _ => t
@[simp] def xPt (t : DTT) : XTT := fun _ => t
@[simp] def xPs (t : DTS) : XTS := fun _ => t
theorem xe_p {e : Expr} {t : DTE} (h : DE X e t) : XE1 X W e (xPe t) := PE.imp h fun σ H Q ⟨ρ, G, q, Z, r, h, k, _⟩ => ⟨ρ, G, q, r, h, k⟩
theorem xa_p {es : List Expr} {t : DTA} (h : DA X es t) : XA1 X W es (xPa t) := PA.imp h fun σ H Q ⟨ρ, G, q, Z, r, h, k, _⟩ => ⟨ρ, G, q, r, h, k⟩
theorem xt_p {e : Expr} {t : DTT} (h : DT X e t) : XT1 X W e (xPt t) := PT.imp h fun σ H Q ⟨ρ, G, q, Z, r, h, k, _⟩ => ⟨ρ, G, q, r, h, k⟩
theorem xs_p {st : Stmt} {t : DTS} (h : DS X st t) : XS1 X W st (xPs t) := PS.imp h fun D σ H ⟨ρ, G, E, Z, r, h, k1, k2, k3, k4, _⟩ => ⟨ρ, G, E, r, h, k1, k2, k3, k4⟩
theorem xss_p {st : List Stmt} {t : DTS} (h : DSs X st t) : XSs X W st (xPs t) := PSs.imp h fun D σ H ⟨ρ, G, E, Z, r, h, k1, k2, k3, k4, _⟩ => ⟨ρ, G, E, r, h, k1, k2, k3, k4⟩

@[simp] def xCons (ta : XTE) (tr : XTA) : XTA := fun Z ρ G Q => ta Z ρ G fun x G1 => tr Z ρ G1 fun xs G2 => Q (x :: xs) G2
theorem xa_cons {e : Expr} {es : List Expr} {te : XTE} {t : XTA} (ha : XE1 X W e te) (hr : XA1 X W es t) (hs : starEach (e :: es) X.env = (false, eval e X.env) :: starEach es X.env := by rfl) : XA1 X W (e :: es) (xCons te t) := by
  refine (pa_cons ha hr hs).imp fun σ H Q ⟨ρ, G, q, Z, r, h, k, z⟩ => ?_
  refine ⟨ρ, G, _, Z, r, h, fun v d H1 G1 e1 r1 v1 h1 => ?_, z⟩
  refine ⟨ρ, G1, _, Z, r1, h1, fun vs ds H2 G2 e2 r2 v2 h2 => ?_, z.ext e1⟩
  exact k (v :: vs) (d :: ds) H2 G2 (e1.trans e2) r2 (repL_cons (v1.ext e2) v2) h2
@[simp] def xOp (r : DR2) (ta tb : XTE) : XTE := fun Z ρ G Q => ta Z ρ G fun x G1 => tb Z ρ G1 fun y G2 => r x y G2 Q
theorem up_xop {K : PySem.W.Frag} {r : DR2} {ta tb : XTE} {σ : St} {H : Hp} {Q : VK} (h : upX K W (xOp r ta tb) σ H Q) : tOp (upR K r) (upX K W ta) (upX K W tb) σ H Q := by
  obtain ⟨ρ, G, q, Z, r0, h, k, z⟩ := h
  refine ⟨ρ, G, _, Z, r0, h, fun x dx H1 G1 e1 r1 v1 h1 => ?_, z⟩
  refine ⟨ρ, G1, _, Z, r1, h1, fun y dy H2 G2 e2 r2 v2 h2 => ?_, z.ext e1⟩
  exact ⟨G2, dx, dy, q, r2.gok, v1.ext e2, v2, h2, fun v d H' G' e3 g3 v3 h3 => k v d H' G' ((e1.trans e2).trans e3) (r2.ext e3 g3) v3 h3⟩
theorem xe_ix {a b : Expr} {ta tb : XTE} {pos : Pos} (ha : XE1 X W a ta) (hb : XE1 X W b tb) (hs : PlainIx b := by exact fun _ _ => rfl) : XE1 X W (.Subscript a b pos) (xOp rIx ta tb) := (pe_ix x_ix ha hb hs).imp fun _ _ _ h => up_xop h
@[simp] def xTup (t : XTA) : XTE := fun Z ρ G Q => t Z ρ G fun xs G1 => xs.length ≤ sizeLine ∧ Q (.tup xs) G1
theorem xe_tup {es : List Expr} {t : XTA} {x1} {pos : Pos} (h : XA1 X W es t) : XE1 X W (.Tuple es x1 pos) (xTup t) := by
  refine (pe_tup h).imp fun σ H Q ⟨ρ, G, q, Z, r, h, k, z⟩ => ?_
  refine ⟨ρ, G, _, Z, r, h, fun vs ds H1 G1 e1 r1 v1 ⟨zl, h1⟩ => ⟨by rw [v1.length]; exact zl, fun p hp => ?_⟩, z⟩
  obtain ⟨e2, r2, v2⟩ := r1.newTup hp v1
  exact k _ _ _ _ (e1.trans e2) r2 v2 h1
@[simp] def xSeq (t u : XTS) : XTS := fun Z E ρ G => t Z { E with nx := u Z E } ρ G
theorem xs_one {st : Stmt} {t : XTS} (h : XS1 X W st t) : XSs X W [st] t := pss_one h
theorem xs_cons {st : Stmt} {rest : List Stmt} {t u : XTS} (h : XS1 X W st t) (h2 : XSs X W rest u) : XSs X W (st :: rest) (xSeq t u) := by
  refine (pss_cons h h2).imp fun D σ H ⟨ρ, G, E, Z, r, h, k1, k2, k3, k4, z⟩ => ?_
  refine ⟨ρ, G, { E with nx := u Z E }, Z, r, h, fun σ' ρ' H' G' e r' h' => ?_, k2, k3, k4, z⟩
  exact ⟨ρ', G', E, Z, r', h', fun a b c d e' => k1 a b c d (e.trans e'), fun a b c d e' => k2 a b c d (e.trans e'), fun a b c d e' => k3 a b c d (e.trans e'), fun a b c d e' => k4 a b c d (e.trans e'), z.ext e⟩
@[simp] def xDrop (te : XTE) : XTS := fun Z E ρ G => te Z ρ G fun _ G1 => E.nx ρ G1
theorem xs_expr {e : Expr} {te : XTE} {pos : Pos} (he : XE1 X W e te) (hs : swapsWith e none pos.line X.env = pure false := by rfl) : XS1 X W (.Expr e pos) (xDrop te) := by
  refine (ps_expr he hs).imp fun D σ H ⟨ρ, G, E, Z, r, h, k1, k2, k3, k4, z⟩ => ?_
  exact ⟨ρ, G, _, Z, r, h, fun v d H' G' e r' v' h' => k1 σ ρ H' G' e r' h', z⟩
@[simp] def xRet (te : XTE) : XTS := fun Z E ρ G => te Z ρ G E.rt
theorem xs_ret {e : Expr} {te : XTE} {pos : Pos} (he : XE1 X W e te) : XS1 X W (.Return (some e) pos) (xRet te) := by
  refine (ps_ret he).imp fun D σ H ⟨ρ, G, E, Z, r, h, _, k2, _, _, z⟩ => ?_
  exact ⟨ρ, G, _, Z, r, h, fun v d H' G' e r' v' h' => k2 v d H' G' e r'.gok v' h', z⟩
@[simp] def xIfS (c : XTT) (t u : XTS) : XTS := fun Z E ρ G => c Z ρ G fun b G1 => if b = true then t Z E ρ G1 else u Z E ρ G1
theorem xs_if {c : Expr} {a b : List Stmt} {tc : XTT} {t u : XTS} {pos : Pos} (hc : XT1 X W c tc) (ha : XSs X W a t) (hb : XSs X W b u) : XS1 X W (.If c a b pos) (xIfS tc t u) := by
  refine (ps_if hc ha hb).imp fun D σ H ⟨ρ, G, E, Z, r, h, k1, k2, k3, k4, z⟩ => ?_
  refine ⟨ρ, G, _, Z, r, h, fun b H1 G1 e1 r1 h1 => ?_, z⟩
  cases b with
  | true => exact ⟨ρ, G1, E, Z, r1, h1, fun a b c d e' => k1 a b c d (e1.trans e'), fun a b c d e' => k2 a b c d (e1.trans e'), fun a b c d e' => k3 a b c d (e1.trans e'), fun a b c d e' => k4 a b c d (e1.trans e'), z.ext e1⟩
  | false => exact ⟨ρ, G1, E, Z, r1, h1, fun a b c d e' => k1 a b c d (e1.trans e'), fun a b c d e' => k2 a b c d (e1.trans e'), fun a b c d e' => k3 a b c d (e1.trans e'), fun a b c d e' => k4 a b c d (e1.trans e'), z.ext e1⟩
@[simp] def xAsg (te : XTE) (g : DTG) : XTS := fun Z E ρ G => te Z ρ G fun x G1 => g x ρ G1 E.nx
theorem xs_set {i : Nat} {x : Str} {e : Expr} {te : XTE} {pos pos' : Pos} (hN : X.N.Nodup) (hi : X.N[i]? = some x) (hx : Loc X.env.scope x) (he : XE1 X W e te) (hs : swapsWith e (some (.Name x pos')) pos.line X.env = pure false := by rfl) (hf : X.fn x = true ∨ X.env.scope.names.lookup x = some .local := by first | exact .inl rfl | exact .inr rfl | assumption) :
    XS1 X W (.Assign [.Name x pos'] e pos) (xAsg te (gNm i)) := by
  refine (ps_set hN hi hx he hs hf).imp fun D σ H ⟨ρ, G, E, Z, r, h, k1, k2, k3, k4, z⟩ => ?_
  refine ⟨ρ, G, _, Z, r, h, fun v d H1 G1 e1 r1 v1 h1 => ?_, z⟩
  exact k1 _ _ H1 G1 e1 (r1.set i v1) h1

def xFor (wi : DTI) (g : DTG) (tb : XTS) : XTS := fun Z E ρ G => wi ρ G fun items ok G1 => dForGo ok g (tb Z) items E ρ G1
theorem xs_for {tg iter : Expr} {body : List Stmt} {wi : DTI} {g : DTG} {tb : XTS} {pos : Pos} (hp : PassesOwn (model X.prog X.w) X.A X.env X.xe) (hc : X.calm = true) (hi : DI X tg iter wi) (hg : DG X tg g) (hb : XSs X W body tb)
    (hs : ∀ x, foldedSetIterable iter X.env x = pure x := by intro _; rfl) : XS1 X W (.For tg iter body [] pos) (xFor wi g tb) := by
  refine (ps_for hp hc hi hg hb hs).imp fun D σ H ⟨ρ, G, E, Z, r, h, k1, k2, k3, k4, z⟩ => ?_
  refine ⟨ρ, G, _, r, h, fun J items ok H1 G1 e1 r1 it h1 => ?_⟩
  refine ⟨fun i m σ2 H2 => m = items.length - i ∧ i ≤ items.length ∧ ∃ ρ2 G2, Ext G1 H1 G2 H2 ∧ DRel X.K σ2 H2 ρ2 G2 ∧ dForGo ok g (tb Z) (items.drop i) E ρ2 G2, ⟨items.length, rfl, Nat.zero_le _, ρ, G1, Ext.refl _ _, r1, h1⟩, ?_⟩
  rintro i m σ2 H2 ⟨rfl, hi, ρ2, G2, e2, r2, h2⟩
  by_cases hlt : i < items.length
  · rw [List.drop_eq_getElem_cons hlt] at h2
    unfold dForGo at h2
    obtain ⟨ho, h2⟩ := h2
    obtain ⟨a, b⟩ := it G2 H2 e2 r2.gok ho i
    obtain ⟨go, yl⟩ := a items[i] (List.getElem?_eq_getElem hlt)
    refine .inr ⟨go, fun σ3 H3 => ∃ ρ3 G3, Ext G1 H1 G3 H3 ∧ DRel X.K σ3 H3 ρ3 G3 ∧ dForGo ok g (tb Z) (items.drop (i + 1)) E ρ3 G3, fun σ3 H3 ⟨ρ3, G3, q⟩ => ⟨items.length - (i + 1), by omega, rfl, hlt, ρ3, G3, q⟩, fun x H3 hy => ?_⟩
    obtain ⟨e3, g3, rx⟩ := yl x H3 hy
    refine ⟨ρ2, G2, items[i], _, r2.ext e3 g3, rx, h2, fun σ4 ρ4 H4 G4 e4 r4 h4 => ?_⟩
    have e5 := (e2.trans e3).trans e4
    refine ⟨ρ4, G4, _, Z, r4, h4, ?_, ?_, ?_, ?_, z.ext (e1.trans e5)⟩
    · exact fun σ' ρ' H' G' e' r' h' => ⟨ρ', G', e5.trans e', r', h'⟩
    · exact fun v d H' G' e' => k2 v d H' G' ((e1.trans e5).trans e')
    · exact fun σ' ρ' H' G' e' r' h' => k1 σ' ρ' H' G' ((e1.trans e5).trans e') r' h'
    · exact fun σ' ρ' H' G' e' r' h' => ⟨ρ', G', e5.trans e', r', h'⟩
  · have e : i = items.length := by omega
    subst e
    rw [List.drop_length] at h2
    unfold dForGo at h2
    exact .inl ⟨(it G2 H2 e2 r2.gok h2.1 _).2 rfl, k1 σ2 ρ2 H2 G2 (e1.trans e2) r2 h2.2⟩
end

abbrev XFn (P : Program) (w : World) (K : PySem.W.Frag) (mg : Str → Option Value) (base : Heap) (k : Nat) (f : Addr) (fd : FuncData) (ps : List Str) (sp : DSp) : Prop := GFn P w K mg base (L2.CX P w) k f fd ps (toSp K sp)
section
variable {X : Cx} {W : WX} {CX : CXT} {k : Nat} {f : Addr} {fd : FuncData} {ps : List Str} {x : Str} {p pos : Pos} {e : Expr} {es : List Expr} {E : St → XK}
theorem g_runS {sp : Sp} {pins : List (Addr × Obj)} {σ : St} {H : Hp} {s : Shared} {Q : VK} {us : List Value} {xs : List V} (F : GFn X.prog X.w X.K X.mg X.base CX k f fd ps sp) (hr : Room k X.A) (hgd : X.A.guards = some []) (hb : Binds X.K fd ps []) (hx : PassesAt CX X σ (E σ))
    (I : Inv X pins σ H s) (r : Vals xs us) (h : sp xs H Q (E σ)) : wpAny (model X.prog X.w) X.A (PySem.call (.ref f) us) (EP X pins σ Q) X.xe s := by
  have al : (us ++ []).length = ps.length := by rw [List.append_nil, ← r.length]; exact F.arity _ _ _ _ h
  have bd := hb s us I.kIn al
  rw [List.append_nil] at bd
  refine wpAny_call (codeAny_mono (F.go X.A X.stack s H ⟨us, []⟩ us xs Q (E σ) hr hgd I.env0 bd r h) ?_)
  intro res s2 hq
  match res, hq with
  | .error er, hq => exact hx pins H s er s2 I hq
  | .ok (.ret u), hq => exact I.after hq
theorem gx_call {sp : Sp} {t : TA} (F : GFn X.prog X.w X.K X.mg X.base CX k f fd ps sp) (hr : Room k X.A) (hgd : X.A.guards = some []) (hg : Gl X x) (hm : X.mg x = some (.ref f)) (hk : PySem.W.keepIn X.K (.ref f) = true) (hb : Binds X.K fd ps []) (hx : ∀ σ, PassesAt CX X σ (E σ))
    (ha : PA X (e :: es) t) (hdb : (x == ("__debug__" : Str)) = false := by decide) (he : starEach (e :: es) X.env = (false, eval e X.env) :: starEach es X.env := by rfl) (hpl : (backTo pos (starEach es X.env)).any (·.1) = false := by rfl) :
    PE X (.Call (.Name x p) (e :: es) [] pos) (fun σ H Q => t σ H fun vs H1 => sp vs H1 Q (E σ)) := by
  constructor
  intro pins s σ H Q I h
  refine wpAny_Call_Name_kw (ld_glob I hg hm ?_ hdb)
  refine PySem.W.callWith_K (h₀ := X.base) I.ok.mod.kin hk ?_ he hpl
  refine thn (ha.run pos pins s σ H _ I h) ?_
  rintro us s1 ⟨xs, H1, I1, r, q⟩
  exact ⟨I1.kIn, g_runS F hr hgd hb (hx σ) I1 r q⟩
end
@[simp] def xCall (sp : DSp) (ta : XTA) : XTE := fun Z ρ G Q => ta Z ρ G fun ds G1 => sp ds G1 Q fun x G2 => Z x ρ G2
theorem spx_at {K : PySem.W.Frag} {W : WX} {sp : DSp} {σ : St} {H : Hp} {ρ : DSt} {G : GH} {Q : VK} {q : DK} {Z : DZ} {vs : List V} {ds : List D} (r : DRel K σ H ρ G) (v : RepL K G H ds vs) (h : sp ds G q fun x G2 => Z x ρ G2)
    (k : ∀ v d H' G', Ext G H G' H' → DRel K σ H' ρ G' → RepV K G' H' d v → q d G' → Q v H') (z : ZOk K W G H Z) : toSp K sp vs H Q (WE W σ) :=
  ⟨ds, G, q, _, v, r.gok, h, fun v d H' G' e2 g2 v2 h2 => k v d H' G' e2 (r.ext e2 g2) v2 h2, fun x c od H' G' e2 g2 rx hz => z x c od σ H' ρ G' e2 (r.ext e2 g2) rx hz⟩
structure XCallee (P : Program) (w : World) (K : PySem.W.Frag) (mg : Str → Option Value) (base : Heap) (k : Nat) (x : Str) (ps : List Str) (sp : DSp) : Prop where
  ex : ∃ f fd, XFn P w K mg base k f fd ps sp ∧ mg x = some (.ref f) ∧ PySem.W.keepIn K (.ref f) = true ∧ Binds K fd ps [] ∧ KwB K fd ps ps (fun l => l)
theorem XCallee.up {P : Program} {w : World} {K : PySem.W.Frag} {mg : Str → Option Value} {base : Heap} {j k : Nat} {x : Str} {ps : List Str} {sp : DSp} (C : XCallee P w K mg base j x ps sp) (h : j ≤ k) : XCallee P w K mg base k x ps sp := by
  obtain ⟨f, fd, F, a⟩ := C.ex
  exact ⟨f, fd, F.up h, a⟩
section
variable {X : Cx} {W : WX} {k : Nat} {f : Addr} {fd : FuncData} {ps : List Str} {sp : DSp} {x : Str} {p pos : Pos} {e : Expr} {es : List Expr} {ta : XTA}
theorem xc (C : XCallee X.prog X.w X.K X.mg X.base k x ps sp) (tk : Takes X W) (hr : Room k X.A) (hgd : X.A.guards = some []) (hg : Gl X x) (ha : XA1 X W (e :: es) ta) (hdb : (x == ("__debug__" : Str)) = false := by decide)
    (he : starEach (e :: es) X.env = (false, eval e X.env) :: starEach es X.env := by rfl) (hpl : (backTo pos (starEach es X.env)).any (·.1) = false := by rfl) : XE1 X W (.Call (.Name x p) (e :: es) [] pos) (xCall sp ta) := by
  obtain ⟨f, fd, F, hm, hk, hb, _⟩ := C.ex
  refine (gx_call F hr hgd hg hm hk hb (passAt tk) ha hdb he hpl).imp fun σ H Q ⟨ρ, G, q, Z, r, h, k, z⟩ => ?_
  refine ⟨ρ, G, _, Z, r, h, fun vs ds H1 G1 e1 r1 v1 h1 => ?_, z⟩
  exact spx_at r1 v1 h1 (fun v d H' G' e2 r2 v2 h2 => k v d H' G' (e1.trans e2) r2 v2 h2) (z.ext e1)
end

theorem xfn_of {P : Program} {w : World} {K : PySem.W.Frag} {mg : Str → Option Value} {base : Heap} {x qual : Str} {params : Arguments} {body : List Stmt} {scope : Scope} {dvs : List V} {kws : List (Str × V)} {f : Addr} {fd : FuncData}
    {N ps : List Str} {k : Nat} {sp : DSp} {t : XTS} (F : FunD K x qual params body scope dvs kws f fd) (S : FnScope N ps scope) (len : ∀ ds G Q E, sp ds G Q E → ds.length = ps.length)
    (hbody : ∀ (cdv : Value) (A : Around) (out : List Env) (st : Shared) (H : Hp) (E : XK), Room k (A.deeper (PyProof.Rows.envOfC qual scope st.heap.objs.size f cdv)) → (A.deeper (PyProof.Rows.envOfC qual scope st.heap.objs.size f cdv)).guards = some [] →
      Takes (cxOf (L2.CX P w) P w K mg base N qual scope f cdv A out st H E) (fun c d _ H' => E c d H') → PassesOwn (model P w) (A.deeper (PyProof.Rows.envOfC qual scope st.heap.objs.size f cdv)) (PyProof.Rows.envOfC qual scope st.heap.objs.size f cdv) (cxOf (L2.CX P w) P w K mg base N qual scope f cdv A out st H E).xe →
      XSs (cxOf (L2.CX P w) P w K mg base N qual scope f cdv A out st H E) (fun c d _ H' => E c d H') body t)
    (ok : ∀ ds G Q E, sp ds G Q E → t (fun x _ G' => E x G') { nx := fun _ G' => Q .non G', rt := Q } (startD N.length ds) G) : XFn P w K mg base (k + 1) f fd ps sp := by
  refine gfn_of F S (fun vs H Q E h => ?_) fun cdv A outer s H vs Q E hr hg h => ⟨_, hbody cdv A outer s H E hr hg (takes_of rfl rfl rfl rfl) (passes_of rfl), ?_⟩
  · obtain ⟨ds, G, q, e, rl, _, h, _⟩ := h
    rw [rl.length]
    exact len _ _ _ _ h
  · obtain ⟨ds, G, q, e, rl, g, h, kq, ke⟩ := h
    refine ⟨startD N.length ds, G, _, _, start_rel rl g, ok ds G q e h, ?_, ?_, ?_, ?_, ?_⟩
    · exact fun σ' ρ' H' G' e' r' h' => kq .non .non H' G' e' r'.gok (by unfold RepV; rfl) h'
    · exact fun v d H' G' e' g' v' h' => kq v d H' G' e' g' v' h'
    · exact fun _ _ _ _ _ _ z => z.elim
    · exact fun _ _ _ _ _ _ z => z.elim
    · exact fun x c od σ' H' ρ' G' e' r' rx hz => ke x c od H' G' e' r'.gok rx hz
end Dl

namespace Dl
open PySem L2 PyProof.Rows

abbrev veInit : String := "ValueError.__init__"
structure ExcS (K : PySem.W.Frag) (file : Str) (C f c cc D : Addr) : Prop where
  ox : OexC K C
  ini : PySem.W.findIn K (.ref C) "__init__" = some (some (.ref f))
  fnT : PySem.W.typeIn K (.ref f) = some (.type "function")
  kD : ∃ cd, PySem.W.clsIn K D = some cd
  cell : ∃ a b sl, K.lookup cc = some ⟨a, b, .cell (some (.ref D)), sl⟩
  code : ∃ a b vs sl t fl, K.lookup c = some ⟨a, b, .fields vs, sl⟩ ∧ vs[2]? = some (.str fl t) ∧ ((file : Str) == fl) = true
  sub : PySem.W.mroIn K C (.ref D) = some true
  next : PySem.W.ks_superIn K C D "__init__" = some (some (.builtin veInit))
  isV : PySem.W.subIn K (.ref C) (.type "ValueError") = some true
  noSuper : PySem.W.nsIn K mainGlobals "super" = some none
  noOpq : PySem.W.nsIn K cStatics "thirdparty.any" = some none

section
variable {prog : Program} {w : World} {A : Around} {E : Value → Shared → Prop}
theorem bw_call {nm q : Str} {C N : Addr} {bs bm : List Value} {hd : Bool} {sn : List Str} {sub : List Value} {ab : Bool} {col : Option Bool} {dd : Option Addr} {k0 k1 k2 k3 k5 : Option Value} {s : Shared} {u x t0 : Addr} {us : List Value} {Q : Value → Shared → Prop}
    (hC : s.heap.get? C = some (excClassObj nm q C N bs bm hd sn sub ab col dd k0 k1 k2 k3 k5 "ValueError.__new__")) (hx : s.heap.get? x = some (PySem.HandSPX.excO C t0)) (hu : s.heap.get? u = some (PySem.W.kxs_mw veInit x)) (hl : us.length ≤ sizeLine)
    (h : ∀ h' t1, (∀ b o, b ≠ x → s.heap.get? b = some o → h'.get? b = some o) → h'.get? x = some (PySem.HandSPX.excO C t1) → Q .none { s with heap := h' }) :
    wpAny (model prog w) A (PySem.call (.ref u) us) Q E s := by
  obtain ⟨hp, g, d, tk, os⟩ := s
  refine wpAny_call (codeAny_of_tree (?_ : wpAny _ A.in1 (callAny (.ref u) ⟨us, []⟩) _ _ _))
  unfold callAny
  refine wpAny_bind (wpAny_load hu ?_)
  dsimp only [PySem.W.kxs_mw]
  refine PySem.W.KFB.if_so (by decide) (wpAny_bind (PySem.W.check_bound_init PySem.F.excBase_ValueError.toExcCallFacts hC hx rfl ?_))
  refine wpAny_bind (wpAny_pure (wpAny_pure ⟨plainId_quiet PySem.F.excBase_ValueError.init.plain _, codeAny_builtin PySem.F.excBase_ValueError.initEntry ?_⟩))
  exact PySem.W.exc_init_tree (t0 := t0) (dv := none) (c2 := .none) (c3 := .none) (b4 := .bool false) hx hl fun h' k e _ => h h' _ k e
end
section
variable {X : Cx} {pins : List (Addr × Obj)} {σ : L2.St} {H : Hp} {s : Shared} {C f c cc D a : Addr} {A : Around} {body : List Stmt} {E : Value → Shared → Prop}
theorem super_ok {fd : FuncData} {oc : Value} {od : Option Addr} {osl : Array (Option Value)} {ar : Arg} {e : Expr} {es : List Expr} {ta : TA} {p0 p1 p2 p3 p4 : Pos} {Q : Flow → Shared → Prop}
    (S : ExcS X.K X.prog.main.file C f c cc D) (hA : A = X.A) (hfu : X.env.func = some f) (lf : X.K.lookup f = some ⟨oc, od, .func fd, osl⟩) (hp : (fd.params.posonlyargs ++ fd.params.args).head? = some ar) (hco : X.env.code = .ref c)
    (hks : X.env.kindOf "super" = some .globalImplicit) (hkc : X.env.kindOf "__class__" = some .free) (hka : X.env.kindOf ar.arg = some .local) (hcl : X.env.cells.lookup ("__class__" : Str) = some cc)
    (htop : (X.prog.main.scope.names.lookup ("super" : Str)).isSome = false) (hN : X.N[0]? = some ar.arg) (h0 : σ[0]? = some (some (.ref a))) (I : Inv X pins σ H s) (ea : H a = some (exo a C none))
    (ha : ∀ pins s, Inv X pins σ H s → wpAny (model X.prog X.w) X.A (spliced (backTo p3 (starEach (e :: es) X.env))) (fun us s' => us.length ≤ sizeLine ∧ Inv X pins σ H s') E s)
    (h : ∀ s', Inv X pins σ H s' → Q .next s')
    (hst : starEach (e :: es) X.env = (false, eval e X.env) :: starEach es X.env := by rfl) (hpl : (backTo p3 (starEach es X.env)).any (·.1) = false := by rfl)
    {pl : Sem Bool} (hev : eval (.Call (.Attribute (.Call (.Name "super" p0) [] [] p1) "__init__" p2) (e :: es) [] p3) X.env = (do
      let ov ← attributeBase (.Call (.Name "super" p0) [] [] p1) "__init__" X.env (eval (.Call (.Name "super" p0) [] [] p1) X.env)
      standAt p2.atName
      let (g, first) ← holding [ov] (getMethod ov "__init__" pl)
      callWith p3 g first (backTo p3 (starEach (e :: es) X.env)) []) := by rfl)
    (hi : interactive X.env = false := by rfl) (hs : swapsWith (.Call (.Attribute (.Call (.Name "super" p0) [] [] p1) "__init__" p2) (e :: es) [] p3) none p4.line X.env = pure false := by rfl) :
    _root_.PySem.wpAt (model X.prog X.w) A (.func body X.env) (exec (.Expr (.Call (.Attribute (.Call (.Name "super" p0) [] [] p1) "__init__" p2) (e :: es) [] p3) p4) X.env) Q E s := by
  subst hA
  obtain ⟨nm, q, N, bs, bm, sn, sub, ab, col, dd, k0, k1, k2, k3, k5, lC, hbm⟩ := S.ox.cls
  have kin := I.kIn
  obtain ⟨t1, hx⟩ := exo_at I.hok ea
  obtain ⟨cdD, hcd⟩ := S.kD
  obtain ⟨oD, hD1, hD2⟩ : ∃ oD, X.K.lookup D = some oD ∧ oD.data = .cls cdD := by
    unfold PySem.W.clsIn at hcd
    split at hcd
    · rename_i z
      cases hcd
      exact ⟨_, z, rfl⟩
    · cases hcd
  obtain ⟨ca, cb, csl, lcell⟩ := S.cell
  obtain ⟨da, db, vs, dsl, tf, fl, lcode, hvs, hfile⟩ := S.code
  have nCa : a ≠ C := fun z => by
    subst z
    have y := kin _ _ lC
    rw [hx] at y
    cases y
  refine PySem.ks_wpAt_Expr_any (PySem.ks_wpAt_MethodCall (pl := pl) ?_ hev) hi hs
  refine PySem.ks_wpAt_super_base hks hkc (by decide) hfu (kin _ _ lf) rfl hp hco (kin _ _ lcode) rfl hvs hfile htop ?_
  obtain ⟨mb, b1, b2⟩ := I.mod.blt
  refine PySem.W.ks_loadName_global I.ok.kind hks (Calls.loadGlobal_builtin (by rw [I.ok.glob]; exact I.mod.glob.keeps I.bk) (PySem.W.mg_none_of I.ok.mod.kin I.mod.glob S.noSuper) (by rw [I.ok.blt]; exact b1.keeps I.bk) ((b2 "super" (by decide)).trans (by first | rfl | kernel_rfl | decide +kernel)) ⟨rfl, ?_⟩)
  refine wpAny_loadName_free I.ok.kind hkc hcl ⟨_, kin _ _ lcell, rfl⟩ ?_
  obtain ⟨m, hm, hl⟩ := id I.loc
  obtain ⟨u0, ru, lk⟩ := hl 0 _ _ hN h0 (.inl hka)
  obtain rfl : u0 = Value.ref a := ru
  have hself : m ar.arg = some (.ref a) := by
    rcases lk with ⟨_, z⟩ | ⟨z, _⟩
    · exact z
    · rw [hka] at z
      rcases z with z | z <;> cases z
  refine wpAny_loadName_local I.ok.kind hka hm hself ?_
  obtain ⟨hh, g, d, t, os⟩ := s
  refine PySem.ks_wpAny_isType_cls (kin _ _ hD1) hD2 ⟨rfl, ?_⟩
  refine PySem.ks_wpAny_call_super (kin _ _ hD1) hD2 hx rfl (fun _ z => by cases z) (PySem.W.looks_mroIn kin S.sub) fun h1 e1 kp1 => ?_
  have I1 : Inv X pins σ H ⟨h1, g, d, t, os⟩ := I.kept (t' := t) kp1
  have kin1 := I1.kIn
  have nx := S.next
  unfold PySem.W.ks_superIn at nx
  cases hcC : PySem.W.clsIn X.K C with
  | none => rw [hcC] at nx; cases nx
  | some cd =>
  rw [hcC] at nx
  have LT : PySem.W.Looks (model X.prog X.w) h1 (typeOf (.ref a)) (.ref C) := fun A Q E s k q => wpAny_typeOf_ref (k _ _ (kp1 _ _ hx)) q
  refine PySem.W.kxs_getMethod PySem.W.kxs_ValueError e1 (PySem.W.looks_opaque kin1 S.noOpq) (l₀ := cd.mro) (fun A Q E s k q => wpAny_bind ((PySem.W.looks_clsIn kin1 hcC) A _ E s k (wpAny_pure q))) rfl kin1 nx (LT.andThen (PySem.W.looks_subIn kin1 S.isV)) nCa (by decide) ?_
  have I2 : Inv X pins σ H ⟨h1.push (PySem.W.kxs_mw veInit a), g, d, t + 1, os⟩ := I1.kept (t' := t + 1) fun b o z => Heap.get?_push_of_some _ z
  have hu : (h1.push (PySem.W.kxs_mw veInit a)).get? h1.objs.size = some (PySem.W.kxs_mw veInit a) := Heap.get?_push_size _ rfl
  have nu : H h1.objs.size = none := I1.hok.fresh (Nat.le_refl _)
  have I3 : Inv X (pins ++ [(h1.objs.size, PySem.W.kxs_mw veInit a)]) σ H ⟨h1.push (PySem.W.kxs_mw veInit a), g, d, t + 1, os⟩ := I2.pins_of fun p hp => by
    rcases List.mem_append.mp hp with z | z
    · exact I2.pin p (List.mem_append_right _ z)
    · obtain rfl : p = _ := by simpa using z
      exact ⟨hu, nu, fun y => absurd I1.lt (by rw [← y]; exact Nat.lt_irrefl _), I1.nofs (Nat.le_refl _), fun _ y => by cases y⟩
  dsimp only
  rw [hst] at ha ⊢
  refine PySem.W.kxs_callWith (i := veInit) (x := a) (by show (false || (backTo p3 (starEach es X.env)).any (·.1)) = false; rw [hpl]; rfl) ?_
  refine Calls.evalArgs_plain ?_
  refine wpAny_mono (ha _ _ I3) (fun us s4 ⟨hz, I4⟩ => ?_) fun _ _ y => y
  have hu4 : s4.heap.get? h1.objs.size = some (PySem.W.kxs_mw veInit a) := (I4.pin (h1.objs.size, PySem.W.kxs_mw veInit a) (List.mem_append_right _ (List.mem_append_right _ (List.mem_singleton.mpr rfl)))).1
  obtain ⟨t4, hx4⟩ := exo_at I4.hok ea
  refine ⟨hu4, bw_call (I4.kIn _ _ lC) hx4 hu4 hz fun h5 t5 k5 e5 => h _ ?_⟩
  have J := (I4.unpinned).write (t' := s4.toks) (x := a) (e := a) (o := exo a C none) (by rw [ea]; exact True.intro) (.inl rfl) k5 ⟨_, e5⟩ (exo_ok e5)
  have eu : upd H a (exo a C none) = H := by
    funext b
    by_cases hb : b = a
    · rw [hb, upd_same, ea]
    · rw [upd_ne hb]
  rw [eu] at J
  exact J
end

def nI (xs : List Str) : List Str := ("self" : Str) :: (xs ++ [("__class__" : Str)])
abbrev nfI (qual : Str) (params : Arguments) (body : List Stmt) (scope : Scope) (cc c : Addr) : NdefX.NF := ⟨"__init__", qual, params, body, scope, [(("__class__" : Str), cc)], c⟩
def spI (C : Addr) (fl : List Str) : Sp := fun vs H Q _ => ∃ (a : Addr) (ws : List V), vs = .ref a :: ws ∧ ws.length = fl.length ∧ H a = some (exo a C none) ∧
  ∀ (dx : Addr) (H' : Hp), H dx = none → dx ≠ a → H' a = some (exo a C (some dx)) → H' dx = some (exd dx (fl.zip ws).reverse) → (∀ b, b ≠ a → b ≠ dx → H' b = H b) → Q .non H'
section
open LamX NdefX
variable {P : Program} {w : World} {K : PySem.W.Frag} {mg : Str → Option Value} {base : Heap} {C f c cc D : Addr} {qual : Str} {params : Arguments} {scope : Scope} {xs fl : List Str} {rest : List Stmt} {dV kV doc pm ct oc : Value} {an od : Option Addr} {osl : Array (Option Value)}
theorem xinit_of {k : Nat} {ar : Arg} {e : Expr} {es : List Expr} {p0 p1 p2 p3 p4 : Pos} {ta : TA} {t : TS} (S : ExcS K P.main.file C f c cc D) {st0 : Stmt} (hst0 : st0 = .Expr (.Call (.Attribute (.Call (.Name "super" p0) [] [] p1) "__init__" p2) (e :: es) [] p3) p4)
    (lf : K.lookup f = some ⟨oc, od, .func (PySem.W.fnX "__init__" qual params (st0 :: rest) scope [(("__class__" : Str), cc)] dV kV doc pm an (.ref c) ct), osl⟩) (hcd : PySem.W.codeIn K (.ref c) qual = true)
    (NS : NScope (nI xs) (("self" : Str) :: xs) ["__class__"] scope) (hp : (params.posonlyargs ++ params.args).head? = some ar) (har : ar.arg = ("self" : Str)) (hks : scope.names.lookup ("super" : Str) = some .globalImplicit)
    (htop : (P.main.scope.names.lookup ("super" : Str)).isSome = false) (hfl : fl.length = xs.length) (hfs : xs.length ≤ 1000)
    (hargs : ∀ (A : Around) (outer : List Env) (s : Shared) (H : Hp) (E : XK), PA (ncx CX0 P w K mg base (nI xs) (nfI qual params (st0 :: rest) scope cc c) f A outer s H E) (e :: es) ta)
    (hta : ∀ (a : Addr) (ws : List V) (H : Hp) (Qa : List V → Hp → Prop), ws.length = xs.length → (∀ us, us.length = xs.length → Qa us H) → ta (startF (nI xs) (.ref a :: ws) [none]) H Qa)
    (hrest : ∀ (A : Around) (outer : List Env) (s : Shared) (H : Hp) (E : XK), PSs (ncx CX0 P w K mg base (nI xs) (nfI qual params (st0 :: rest) scope cc c) f A outer s H E) rest t)
    (ht : ∀ (a : Addr) (ws : List V) (H : Hp) (Q : VK), ws.length = xs.length → H a = some (exo a C none) →
      (∀ (dx : Addr) (H' : Hp), H dx = none → dx ≠ a → H' a = some (exo a C (some dx)) → H' dx = some (exd dx (fl.zip ws).reverse) → (∀ b, b ≠ a → b ≠ dx → H' b = H b) → Q .non H') → t { nx := fun _ H' => Q .non H', rt := Q } (startF (nI xs) (.ref a :: ws) [none]) H)
    (hst : ∀ env, starEach (e :: es) env = (false, eval e env) :: starEach es env := by intro _; rfl) (hpl : ∀ env, (backTo p3 (starEach es env)).any (·.1) = false := by intro _; rfl) {pl : Env → Sem Bool}
    (hev : ∀ env, eval (.Call (.Attribute (.Call (.Name "super" p0) [] [] p1) "__init__" p2) (e :: es) [] p3) env = (do
      let ov ← attributeBase (.Call (.Name "super" p0) [] [] p1) "__init__" env (eval (.Call (.Name "super" p0) [] [] p1) env)
      standAt p2.atName
      let (g, first) ← holding [ov] (getMethod ov "__init__" (pl env))
      callWith p3 g first (backTo p3 (starEach (e :: es) env)) []) := by intro _; rfl)
    (hs : ∀ env, swapsWith (.Call (.Attribute (.Call (.Name "super" p0) [] [] p1) "__init__" p2) (e :: es) [] p3) none p4.line env = pure false := by intro _; rfl) :
    FnOk P w K mg base CX0 (k + 1) f (PySem.W.fnX "__init__" qual params (st0 :: rest) scope [(("__class__" : Str), cc)] dV kV doc pm an (.ref c) ct) (("self" : Str) :: xs) (spI C fl) := by
  subst hst0
  refine ⟨fun vs H Q E h => ?_, fun A outer s H args us vs Q E hr e0 hb r hsp => ?_⟩
  · obtain ⟨a, ws, rfl, hl, _⟩ := h
    simp [hl, hfl]
  obtain ⟨a, ws, rfl, hl, ea, hq⟩ := hsp
  have hl' : ws.length = xs.length := hl.trans hfl
  have kin : K.In s.heap := e0.mod.kin.keeps fun b o z => (e0.bs b o z).1
  have lim : s.heap.NoLimit := e0.mod.nolimit.keeps fun b o z => (e0.bs b o z).1
  refine codeAny_call_function hr.depth (kin _ _ lf) rfl NS.co NS.gen rfl (PySem.W.codeRec_of kin hcd) (hb _ _ _ _ ?_)
  refine wpAny_newFunctionEnv NS.nocell (fun ⟨n, _⟩ hy => NS.par n (List.of_mem_zip hy).1) (fun h₁ hns hsb => ⟨lim.fresh _ hsb, PySem.ks_codeAny_funcAt ?_⟩) NS.kind
  have kp : ∀ b o, s.heap.get? b = some o → h₁.get? b = some o := fun b o z => hsb.extBut b o (Nat.ne_of_lt (Heap.lt_size z)) (Heap.get?_push_of_some _ z)
  obtain ⟨ca, cb, csl, lcell⟩ := S.cell
  have nH : ∀ {b : Addr} {o : Obj}, K.lookup b = some o → H b = none := fun {b o} z => (e0.bs b o (e0.mod.kin b o z)).2
  have CA : CellsAt [(("__class__" : Str), cc)] ["__class__"] [none] s.heap H := by
    refine ⟨rfl, fun y d z => ?_, fun x y d z1 z2 => ?_, fun i y z => ?_⟩
    · have q : (("__class__" : Str), d) = (("__class__" : Str), cc) ∧ y = "__class__" := by
        have m := PySem.mem_of_lookup z
        rw [List.mem_singleton] at m
        cases m
        exact ⟨rfl, rfl⟩
      cases q.1
      exact ⟨nH lcell, _, ⟨_, kin _ _ lcell, rfl⟩⟩
    · have m1 := PySem.mem_of_lookup z1
      have m2 := PySem.mem_of_lookup z2
      rw [List.mem_singleton] at m1 m2
      cases m1
      cases m2
      rfl
    · match i, z with
      | 0, z =>
        cases z
        exact ⟨cc, by simp [List.lookup], fun v y => by cases y⟩
  have I0 : Inv (ncx CX0 P w K mg base (nI xs) (nfI qual params (Stmt.Expr (.Call (.Attribute (.Call (.Name "super" p0) [] [] p1) "__init__" p2) (e :: es) [] p3) p4 :: rest) scope cc c) f A outer s H E) [] (startF (nI xs) (.ref a :: ws) [none]) H { s with heap := h₁, toks := s.toks + ((("self" : Str) :: xs).zip us).length } :=
    inv_startN NS hr.hd e0 (by simp [hl']) r CA hns kp
  refine PySem.ks_wpAt_execs_cons ?_
  have kc : ∀ {x : Str} {nk : NameKind}, scope.names.lookup x = some nk → (envF (nfI qual params (Stmt.Expr (.Call (.Attribute (.Call (.Name "super" p0) [] [] p1) "__init__" p2) (e :: es) [] p3) p4 :: rest) scope cc c) f s.heap.objs.size).kindOf x = some nk := fun z => z
  refine super_ok (X := ncx CX0 P w K mg base (nI xs) (nfI qual params (Stmt.Expr (.Call (.Attribute (.Call (.Name "super" p0) [] [] p1) "__init__" p2) (e :: es) [] p3) p4 :: rest) scope cc c) f A outer s H E) (ar := ar) (ta := ta) (pl := pl _)
    S rfl rfl lf hp rfl (kc hks) (kc (NS.frk _ (by simp))) (by rw [har]; exact kc (NS.par _ (by simp))) (by rfl) htop (by rw [har]; rfl) (a := a) (by rfl) I0 ea ?_ ?_ (hst _) (hpl _) (hev _) I0.quiet (hs _)
  · intro pins s3 I3
    refine wpAny_mono ((hargs A outer s H E).run p3 pins s3 _ H (fun us H1 => us.length = xs.length ∧ H1 = H) I3 (hta a ws H _ hl' fun us hu => ⟨hu, rfl⟩)) (fun us s4 hh => ?_) fun _ _ z => z
    obtain ⟨vs4, H4, I4, r4, h4, e4⟩ := hh
    subst e4
    refine ⟨?_, I4⟩
    rw [← r4.length, h4, sizeLine_eq]
    omega
  · intro s5 I5
    refine wpAt_of_wpAny (wpAny_mono ((hrest A outer s H E).run [] s5 _ H _ I5 (ht a ws H Q hl' ea hq)) (fun fl s6 hs6 => ?_) fun _ _ z => z)
    have fin : ∀ {σ' : L2.St} {H' : Hp} {v : V} {u : Value}, Inv (ncx CX0 P w K mg base (nI xs) (nfI qual params (Stmt.Expr (.Call (.Attribute (.Call (.Name "super" p0) [] [] p1) "__init__" p2) (e :: es) [] p3) p4 :: rest) scope cc c) f A outer s H E) [] σ' H' s6 →
        L2.RelV v u → Q v H' → CE outer P w H s Q u s6 := fun J rv q => ⟨_, _, J.os, J.bare, J.base, J.hok, rv, q⟩
    cases fl with
    | ret u =>
      obtain ⟨v, σ', H', J, rv, q⟩ := hs6
      exact fin J rv q
    | next =>
      obtain ⟨σ', H', J, q⟩ := hs6
      exact fin (v := V.non) (u := Value.none) J rfl q
    | brk =>
      obtain ⟨_, _, _, q⟩ := hs6
      exact q.elim
    | cont =>
      obtain ⟨_, _, _, q⟩ := hs6
      exact q.elim
end
end Dl

namespace Dl
open PySem L2 PyProof.Rows LamX NdefX
section
variable {P : Program} {w : World} {K : PySem.W.Frag} {mg : Str → Option Value} {base : Heap} {C f c cc D : Addr} {qual x1 x2 f1 f2 : Str} {params : Arguments} {scope : Scope} {dV kV doc pm ct oc : Value} {an od : Option Addr} {osl : Array (Option Value)}
  {p0 p1 p2 p3 p4 q1 q2 r1 r2 r3 r4 r5 r6 r7 r8 : Pos} {ar : Arg}
abbrev stSup (p0 p1 p2 p3 p4 : Pos) (es : List Expr) : Stmt := .Expr (.Call (.Attribute (.Call (.Name "super" p0) [] [] p1) "__init__" p2) es [] p3) p4
abbrev stKeep (x f : Str) (r1 r2 r3 r4 : Pos) : Stmt := .Assign [.Attribute (.Name "self" r1) f r2] (.Name x r3) r4
theorem xinit2 (S : ExcS K P.main.file C f c cc D)
    (lf : K.lookup f = some ⟨oc, od, .func (PySem.W.fnX "__init__" qual params [stSup p0 p1 p2 p3 p4 [.Name x1 q1, .Name x2 q2], stKeep x1 f1 r1 r2 r3 r4, stKeep x2 f2 r5 r6 r7 r8] scope [(("__class__" : Str), cc)] dV kV doc pm an (.ref c) ct), osl⟩)
    (hcd : PySem.W.codeIn K (.ref c) qual = true) (NS : NScope (nI [x1, x2]) [("self" : Str), x1, x2] ["__class__"] scope) (hp : (params.posonlyargs ++ params.args).head? = some ar) (har : ar.arg = ("self" : Str)) (hks : scope.names.lookup ("super" : Str) = some .globalImplicit)
    (htop : (P.main.scope.names.lookup ("super" : Str)).isSome = false) (n1 : PySem.W.findIn K (.ref C) f1 = some none) (n2 : PySem.W.findIn K (.ref C) f2 = some none)
    (d1 : (x1 == ("__debug__" : Str)) = false) (d2 : (x2 == ("__debug__" : Str)) = false) (e1 : (x1 == ("__classdict__" : Str)) = false) (e2 : (x2 == ("__classdict__" : Str)) = false)
    {pl : Env → Sem Bool} (hev : ∀ env, eval (.Call (.Attribute (.Call (.Name "super" p0) [] [] p1) "__init__" p2) [.Name x1 q1, .Name x2 q2] [] p3) env = (do
      let ov ← attributeBase (.Call (.Name "super" p0) [] [] p1) "__init__" env (eval (.Call (.Name "super" p0) [] [] p1) env)
      standAt p2.atName
      let (g, first) ← holding [ov] (getMethod ov "__init__" (pl env))
      callWith p3 g first (backTo p3 (starEach [.Name x1 q1, .Name x2 q2] env)) []))
    (hsw : ∀ env, swapsWith (.Call (.Attribute (.Call (.Name "super" p0) [] [] p1) "__init__" p2) [.Name x1 q1, .Name x2 q2] [] p3) none p4.line env = pure false) :
    FnOk P w K mg base CX0 1 f (PySem.W.fnX "__init__" qual params [stSup p0 p1 p2 p3 p4 [.Name x1 q1, .Name x2 q2], stKeep x1 f1 r1 r2 r3 r4, stKeep x2 f2 r5 r6 r7 r8] scope [(("__class__" : Str), cc)] dV kV doc pm an (.ref c) ct) [("self" : Str), x1, x2] (spI C [f1, f2]) := by
  have vs : Vis scope ("self" : Str) := .inl (NS.par _ (by simp))
  have v1 : Vis scope x1 := .inl (NS.par _ (by simp))
  have v2 : Vis scope x2 := .inl (NS.par _ (by simp))
  refine xinit_of (k := 0) (xs := [x1, x2]) (fl := [f1, f2]) (ta := tCons (tVar 1) (tCons (tVar 2) tNil)) (t := tSeq (tOst K f1 (tVar 0) (tVar 1)) (tOst K f2 (tVar 0) (tVar 2))) S rfl lf hcd NS hp har hks htop rfl (by simp) ?_ ?_ ?_ ?_ (hev := hev) (hs := hsw)
  · intro A outer s H E
    exact pa_cons (pe_var (i := 1) rfl v1 d1 e1) (pa_cons (pe_var (i := 2) rfl v2 d2 e2) pa_nil)
  · rintro a ws H Qa hw h
    match ws, hw with
    | [u, v], _ => exact ⟨u, rfl, v, rfl, h _ rfl⟩
  · intro A outer s H E
    exact pss_cons (ps_ost (pe_var (i := 0) rfl vs) (pe_var (i := 1) rfl v1 d1 e1)) (pss_one (ps_ost (pe_var (i := 0) rfl vs) (pe_var (i := 2) rfl v2 d2 e2)))
  · rintro a ws H Q hw ea hq
    match ws, hw with
    | [u, v], _ =>
      refine ⟨u, rfl, .ref a, rfl, a, C, rfl, S.ox, n1, .inl ⟨ea, fun dx hd ne => ?_⟩⟩
      refine ⟨v, rfl, .ref a, rfl, a, C, rfl, S.ox, n2, .inr ⟨dx, _, upd_same, by rw [upd_ne ne, upd_same], by show 1 ≤ 900; decide, ?_⟩⟩
      refine hq dx _ hd ne (by rw [upd_ne (Ne.symm ne), upd_same]) upd_same fun b h1 h2 => ?_
      rw [upd_ne h2, upd_ne h1, upd_ne h2]
end

structure XClass (P : Program) (w : World) (K : PySem.W.Frag) (mg : Str → Option Value) (x : Str) (fl : List Str) : Prop where
  ox : OexC K (He.ga K x)
  few : fl.length ≤ 100
  at_ : mg x = some (.ref (He.ga K x))
  made : ∀ base : Heap, ∃ f fd ps, PySem.W.findIn K (.ref (He.ga K x)) "__init__" = some (some (.ref f)) ∧ PySem.W.typeIn K (.ref f) = some (.type "function") ∧ FnOk P w K mg base CX0 1 f fd ps (spI (He.ga K x) fl) ∧ Binds K fd ps []
@[simp] def xRaise (x : Str) (fl : List Str) (ta : XTA) : XTS := fun Z _ ρ G => ta Z ρ G fun ds G1 => ds.length = fl.length ∧ Z ⟨x, (fl.zip ds).reverse⟩ ρ G1
theorem zip_rep {K : PySem.W.Frag} {G : GH} {H : Hp} : ∀ {fl : List Str} {ds : List D} {vs : List V}, RepL K G H ds vs → (fl.zip vs).map (·.1) = (fl.zip ds).map (·.1) ∧ RepL K G H ((fl.zip ds).map (·.2)) ((fl.zip vs).map (·.2))
  | [], ds, vs, _ => by simp [repL_nil]
  | _ :: _, [], vs, h => by unfold RepL at h; subst h; simp [repL_nil]
  | y :: fl, d :: ds, vs, h => by
    unfold RepL at h
    obtain ⟨v, r, rfl, h1, h2⟩ := h
    obtain ⟨e1, e2⟩ := zip_rep (fl := fl) h2
    simp only [List.zip_cons_cons, List.map_cons]
    exact ⟨by rw [e1], repL_cons h1 e2⟩
section
variable {X : Cx} {W : WX} {x : Str} {fl : List Str} {e : Expr} {es : List Expr} {ta : XTA} {p pos pos' : Pos}
theorem xs_raise (C : XClass X.prog X.w X.K X.mg x fl) (hc : X.calm = true) (tk : Takes X W) (hr : Room 2 X.A) (hg : Gl X x) (ha : XA1 X W (e :: es) ta) (hdb : (x == ("__debug__" : Str)) = false := by decide)
    (he : starEach (e :: es) X.env = (false, eval e X.env) :: starEach es X.env := by rfl) (hpl : (backTo pos (starEach es X.env)).any (·.1) = false := by rfl) :
    XS1 X W (.Raise (some (.Call (.Name x p) (e :: es) [] pos)) none pos') (xRaise x fl ta) := by
  obtain ⟨f, fd, ps, h1, h2, F, hb⟩ := C.made X.base
  refine PS.imp (ps_raise hc tk (pmk_oex C.ox h1 h2 F hr hb .nil pass0 hg C.at_ ha hdb he hpl)) fun D σ H ⟨ρ, G, E, Z, r, h, _, _, _, _, z⟩ => ?_
  refine ⟨ρ, G, _, Z, r, h, fun vs ds H1 G1 e1 r1 v1 hh => ?_, z⟩
  obtain ⟨hl, hz⟩ := hh
  have lv := v1.length
  have few := C.few
  refine ⟨by omega, fun a na => ?_⟩
  refine ⟨a, vs, by rw [List.append_nil], by omega, upd_same, fun dx H' hd ne i1 i2 i3 => ?_⟩
  have hd1 : H1 dx = none := by rw [upd_ne ne] at hd; exact hd
  refine ⟨rfl, dx, _, i1, i2, hd1, ?_⟩
  have eH : upd (del H' a) dx (.xd (fl.zip vs).reverse) = upd H1 dx (.xd (fl.zip vs).reverse) := by
    funext b
    by_cases q : b = dx
    · rw [q, upd_same, upd_same]
    · rw [upd_ne q, upd_ne q]
      by_cases q2 : b = a
      · rw [q2, del_same, na]
      · rw [del_ne q2, i3 b q2 q, upd_ne q2]
  rw [eH]
  have ex : Ext G1 H1 G1 (upd H1 dx (.xd (fl.zip vs).reverse)) := Ext.new hd1
  obtain ⟨n1, n2⟩ := zip_rep (fl := fl) (v1.ext ex)
  refine z.ext e1 ⟨x, (fl.zip ds).reverse⟩ _ _ σ _ ρ G1 ex (r1.ext ex (r1.gok.new hd1)) ⟨rfl, dx, _, rfl, r1.gok.fresh hd1, upd_same, ?_, ?_⟩ hz
  · rw [List.map_reverse, List.map_reverse, n1]
  · rw [List.map_reverse, List.map_reverse]
    exact n2.reverse
end
end Dl

namespace Dl
open PySem L2 PyProof.Rows LamX

def lamP (q : Str) (params : Arguments) (body : Expr) (scope : Scope) (cl : List (Str × Addr)) : Addr → Addr → Heap → Prop := fun a c h =>
  ∃ (pm ctv : Value), h.get? a = some (PySem.W.kla_obj "<lambda>" q params body scope cl pm c ctv)
theorem DOk.same {K : PySem.W.Frag} {G : GH} {H H1 : Hp} {a : Addr} {u : DO} (x : DOk K G H a u) (ex : Ext G H G H1) (e : H1 a = H a) : DOk K G H1 a u := by
  cases u with
  | lst ds => obtain ⟨xs, e1, r⟩ := x; exact ⟨xs, e.trans e1, r.ext ex⟩
  | dct kvs => obtain ⟨xs, e1, e2, r⟩ := x; exact ⟨xs, e.trans e1, e2, r.ext ex⟩
  | dtp kvs => obtain ⟨xs, e1, e2, r⟩ := x; exact ⟨xs, e.trans e1, e2, r.ext ex⟩
  | raw w => exact e.trans x
  | ins c fs => obtain ⟨dx, xs, e1, e2, r⟩ := x; exact ⟨dx, xs, e.trans e1, e2, r.ext ex⟩
  | tab q => exact TabD.ext ex x e
  | slt c vs => exact SltD.ext ex x e

section
variable {X : Cx} {pins : List (Addr × Obj)} {σ : L2.St} {H : Hp} {s : Shared}
theorem lam_new {c P : Addr} {ps : Array Value} {params : Arguments} {body : Expr} {scope : Scope} {pos : Pos} {E Q : Value → Shared → Prop} (I : Inv X pins σ H s) (TB : TabB X.base X.mg c P) (hcode : X.env.code = .ref c)
    (hP : H P = some (.tbl ps)) (ht : TriplesOk ps.toList) (hall : ∀ (pos : Pos) (cv : Value), codeAmong pos ps.toList = some cv → ∃ c2, cv = .ref c2 ∧ H c2 = some (CodeO c2 (X.env.qual ++ "<lambda>")))
    (hdef : defaultsOf params X.env = ([], [])) (hfree : ∀ y ∈ scope.names, y.2 = .free → ∃ c, X.env.cells.lookup y.1 = some c)
    (h : ∀ (f c' : Addr) (H1 : Hp) (s' : Shared) (ps' : Array Value), Inv X pins σ H1 s' → H f = none → (∀ b o, H b = some o → b ≠ P → H1 b = some o) → H1 P = some (.tbl ps') → TriplesOk ps'.toList →
      (∀ (pos : Pos) (cv : Value), codeAmong pos ps'.toList = some cv → (cv = .ref c' ∧ H c' = none) ∨ codeAmong pos ps.toList = some cv) → H1 f = some (.ext (lamP (X.env.qual ++ "<lambda>") params body scope (cloFrom X.env.cells scope.names []) f c')) →
      H1 c' = some (CodeO c' (X.env.qual ++ "<lambda>")) → (H c' = none ∨ ∃ pos, codeAmong pos ps.toList = some (.ref c')) → Q (.ref f) s') :
    wpAny (model X.prog X.w) X.A (eval (.Lambda params body scope pos) X.env) Q E s := by
  refine PySem.W.kla_eval hdef ?_
  have bP : s.heap.BuiltinsAt X.mg P := TB.bm.keeps I.bk
  have hP' : s.heap.get? P = some { cls := .none, data := .fields ps } := I.hok P _ hP
  -- the new object tracked
  have lay : ∀ {H2 : Hp} {h' : Heap} {t' : Nat} {c' : Addr} {pm ctv : Value}, Inv X pins σ H2 { s with heap := h', toks := t' } →
      Inv X pins σ (upd H2 h'.objs.size (.ext (lamP (X.env.qual ++ "<lambda>") params body scope (cloFrom X.env.cells scope.names []) h'.objs.size c')))
        { s with heap := h'.push (PySem.W.kla_obj "<lambda>" (X.env.qual ++ "<lambda>") params body scope (cloFrom X.env.cells scope.names []) pm c' ctv), toks := t' } := by
    intro H2 h' t' c' pm ctv J
    have hn : (h'.push (PySem.W.kla_obj "<lambda>" (X.env.qual ++ "<lambda>") params body scope (cloFrom X.env.cells scope.names []) pm c' ctv)).get? h'.objs.size = some (PySem.W.kla_obj "<lambda>" (X.env.qual ++ "<lambda>") params body scope (cloFrom X.env.cells scope.names []) pm c' ctv) := Heap.get?_push_size _ rfl
    exact J.laid (t' := t') (fun b o e => Heap.get?_push_of_some _ e) (Nat.le_refl _) ⟨⟨pm, ctv, hn⟩, ⟨_, hn⟩, fun h1 h2 ⟨p1, p2, e1⟩ st => ⟨p1, p2, st _ e1⟩⟩
  cases hc : codeAmong pos ps.toList with
  | none =>
    refine PySem.W.kla_makeFunction (mg := X.mg) (c := c) (P := P) (ps := ps) (closure_ok hfree) I.ok.glob (I.mod.glob.keeps I.bk) hcode (TB.code.keeps I.bk) hP' ht hc TB.gP bP fun c' ctv h' tk hx hge hlt hrec htb => ?_
    obtain ⟨c2, oc, vs, t, e2, hoc, hd, hv⟩ := hrec
    cases e2
    have nC : H c' = none := I.hok.fresh hge
    have I1 := inv_table (t' := tk) (more := #[rawInt pos.line, rawInt pos.col, .ref c']) I hP (fun b o hb e => hx b o hb e) htb hge ⟨oc, vs, t, hoc, hd, hv⟩
    have I2 := lay (pm := (X.mg "__name__").getD .none) (ctv := ctv) (c' := c') I1
    have nF2 := I1.hok.fresh (Nat.le_refl h'.objs.size)
    have nF : H h'.objs.size = none := I.hok.fresh (Nat.le_trans hge (Nat.le_of_lt hlt))
    have nPc : P ≠ c' := ne_of_none hP nC
    have nfP : P ≠ h'.objs.size := ne_of_none hP nF
    have nfc : c' ≠ h'.objs.size := Nat.ne_of_lt hlt
    have eL : (ps ++ #[rawInt pos.line, rawInt pos.col, .ref c']).toList = ps.toList ++ [rawInt pos.line, rawInt pos.col, .ref c'] := by simp
    refine h _ c' _ _ (ps ++ #[rawInt pos.line, rawInt pos.col, .ref c']) I2 nF (fun b o e n => ?_) ?_ ?_ (fun p2 cv hcv => ?_) upd_same ?_ (.inl nC)
    · rw [upd_ne (ne_of_none e nF), upd_ne (ne_of_none e nC), upd_ne n]; exact e
    · rw [upd_ne nfP, upd_ne nPc, upd_same]
    · rw [eL]; exact PySem.TriplesOk_snoc _ _ _ _ ht
    · rw [eL] at hcv
      rcases among_app _ ht hcv with z | z
      · exact .inr z
      · exact .inl ⟨z, nC⟩
    · rw [upd_ne nfc, upd_same]
  | some cv =>
    obtain ⟨c', e, hco⟩ := hall pos cv hc
    subst e
    refine PySem.W.kla_makeFunctionHit (mg := X.mg) (c := c) (P := P) (ps := ps) (closure_ok hfree) I.ok.glob (I.mod.glob.keeps I.bk) hcode (TB.code.keeps I.bk) hP' ht hc bP fun ctv h' tk hx hsz => ?_
    have I1 : Inv X pins σ H { s with heap := h', toks := tk } := I.kept (t' := tk) hx
    have I2 := lay (pm := (X.mg "__name__").getD .none) (ctv := ctv) (c' := c') I1
    have nF : H h'.objs.size = none := I.hok.fresh hsz
    refine h _ c' _ _ ps I2 nF (fun b o e _ => ?_) ?_ ht (fun p2 cv hcv => .inr hcv) upd_same ?_ (.inr ⟨pos, hc⟩)
    · rw [upd_ne (ne_of_none e nF)]; exact e
    · rw [upd_ne (ne_of_none hP nF)]; exact hP
    · rw [upd_ne (ne_of_none hco nF)]; exact hco
end
def dLam (P : Addr) (q : Str) (φ : Addr → Addr → Heap → Prop) : DTE := fun _ G Q => G P = some (.tab q) ∧ Q (.fn q φ (fun _ => False) (fun _ => none)) G
section
variable {X : Cx}
theorem de_lam {c P : Addr} {params : Arguments} {body : Expr} {scope : Scope} {pos : Pos} (TB : TabB X.base X.mg c P) (hcode : X.env.code = .ref c) (hdef : defaultsOf params X.env = ([], []))
    (hfree : ∀ y ∈ scope.names, y.2 = .free → X.env.scope.names.lookup y.1 = some .cell ∨ X.env.scope.names.lookup y.1 = some .free) :
    DE X (.Lambda params body scope pos) (dLam P (X.env.qual ++ "<lambda>") (lamP (X.env.qual ++ "<lambda>") params body scope (cloFrom X.env.cells scope.names []))) := by
  refine ⟨fun pins s σ H Q I ⟨ρ, G, q, r, ⟨gP, h⟩, k⟩ => ?_⟩
  obtain ⟨ps, hP, ht, hall⟩ := r.gok P _ gP
  have has : ∀ y ∈ scope.names, y.2 = .free → ∃ c, X.env.cells.lookup y.1 = some c := fun y hy e => by
    rcases hfree y hy e with z | z
    · exact I.ok.has _ (.inl z)
    · exact I.ok.has _ (.inr z)
  refine lam_new I TB hcode hP ht (fun p cv z => ?_) hdef has fun f c' H1 s' ps' J nF k1 k2 k3 k4 k5 k6 k7 => ?_
  · obtain ⟨c2, e1, _, e2⟩ := hall p cv z
    exact ⟨c2, e1, e2⟩
  have ex : Ext G H G H1 := fun b o e => by
    by_cases n : b = P
    · subst n
      exact ⟨⟨_, k2⟩, fun g => by rw [gP] at g; cases g⟩
    · exact ⟨⟨o, k1 b o e n⟩, fun g => ⟨g, k1 b o e n⟩⟩
  have fr : ∀ {b : Addr}, H b = none → G b = none := fun z => r.gok.fresh z
  have gc : G c' = none := by
    rcases k7 with z | ⟨p, z⟩
    · exact fr z
    · obtain ⟨c2, e1, g, _⟩ := hall p _ z
      cases e1
      exact g
  have gk : GOk X.K G H1 := fun a u e => by
    by_cases n : a = P
    · subst n
      rw [gP] at e
      cases e
      refine ⟨ps', k2, k3, fun p cv z => ?_⟩
      rcases k4 p cv z with ⟨rfl, y⟩ | y
      · exact ⟨c', rfl, fr y, k6⟩
      · obtain ⟨c2, e1, g, e2⟩ := hall p cv y
        refine ⟨c2, e1, g, k1 _ _ e2 fun z => ?_⟩
        subst z
        rw [gP] at g
        cases g
    · obtain ⟨w, ew⟩ := (r.gok a u e).there
      exact (r.gok a u e).same ex ((k1 a w ew n).trans ew.symm)
  refine ⟨.ref f, H1, J, rfl, k _ _ _ _ ex (r.ext ex gk) ?_ h⟩
  unfold RepV
  exact ⟨f, c', rfl, fr nF, k5, gc, k6, fun b o z => by cases z⟩
end
end Dl

namespace Dl
open PySem L2 PyProof.Rows LamX

structure Act where
  q : Str
  φ : Addr → Addr → Heap → Prop
  n0 : Addr → Prop
  H0 : Hp
  tl : DXK → GH → DK → Prop
abbrev Act.d (α : Act) : D := .fn α.q α.φ α.n0 α.H0
@[simp] def xAct (i : Nat) (α : Act) : XTE := fun Z ρ G Q => sl ρ i = some α.d ∧ α.tl (fun x G' => Z x ρ G') G Q
section
variable {X : Cx} {pins : List (Addr × Obj)} {σ : L2.St} {H : Hp} {s : Shared} {ρX : DSt} {GX : GH}
theorem act_of {Ng : List Str} {qg : Str} {sg : Scope} {g : Addr} {cdg : Value} {params : Arguments} {body : Expr} {scope : Scope} {k i : Nat} {a : Str} {pn : List (Addr × Obj)} {xe : Value → Shared → Prop} {W : WX} {t : XTE} {p1 p2 : Pos} {Eg : XK}
    (I : Inv X pins σ H s) (rX : DRel X.K σ H ρX GX) (L : LamS X.env.scope scope) (hbind : ∀ (cl : List (Str × Addr)) (pm cv ctv : Value), bindArgs (PySem.W.kla_fn "<lambda>" (X.env.qual ++ "<lambda>") params body scope cl pm cv ctv) ⟨[], []⟩ = pure [])
    (hr : Room (k + 1) (X.A.deeper (envOfC qg sg s.heap.objs.size g cdg))) (hgd : X.A.guards = some [])
    (tk : Takes ((cxOf CX0 X.prog X.w X.K X.mg X.base Ng qg sg g cdg X.A X.stack s H Eg).tr pn xe) W)
    (hbody : ∀ (A : Around) (outer : List Env) (s : Shared) (H : Hp) (E : XK) (f c' : Addr), Room k (A.deeper (lamEnv X scope s.heap.objs.size f c')) → (A.deeper (lamEnv X scope s.heap.objs.size f c')).guards = some [] →
      Takes (lamCx X A outer s H E scope f c') (fun c d _ H' => E c d H') → XE1 (lamCx X A outer s H E scope f c') (fun c d _ H' => E c d H') body t)
    (hN : Ng[i]? = some a) (hv : Vis sg a) (hd : (a == ("__debug__" : Str)) = false := by decide) (hcd : (a == ("__classdict__" : Str)) = false := by decide) :
    XE1 ((cxOf CX0 X.prog X.w X.K X.mg X.base Ng qg sg g cdg X.A X.stack s H Eg).tr pn xe) W (.Call (.Name a p1) [] [] p2)
      (xAct i ⟨X.env.qual ++ "<lambda>", lamP (X.env.qual ++ "<lambda>") params body scope (cloFrom X.env.cells scope.names []), fun b => GX b = none, H, fun E' G Q => t (fun x _ G' => E' x G') ρX G Q⟩) := by
  refine ⟨fun pinsZ sZ σZ HZ QZ IZ hh => ?_⟩
  obtain ⟨ρ, G, Q, Z, r, ⟨hs, ht⟩, kq, kz⟩ := hh
  obtain ⟨v, hsv, rv⟩ := r.sl hs
  unfold RepV at rv
  obtain ⟨f, c', rfl, gf, hf, gc, hc, keep⟩ := rv
  refine wpAny_Call_Name_kw (thn ((pe_var (pos := p1) (i := i) hN hv hd hcd).run pinsZ sZ σZ HZ (fun v H1 => v = .ref f ∧ H1 = HZ) IZ ⟨.ref f, hsv, rfl, rfl⟩) fun u s1 ⟨w, H1, I1, r1, e1, e2⟩ => ?_)
  subst e1
  rw [e2] at I1
  obtain rfl : u = Value.ref f := r1
  obtain ⟨⟨pm, ctv, of1⟩, _, _⟩ := I1.hok f _ hf
  have ofc : s1.heap.CodeRec (.ref c') (X.env.qual ++ "<lambda>") := by
    obtain ⟨⟨oc, vs, tt, z1, z2, z3⟩, _, _⟩ := I1.hok c' _ hc
    exact ⟨c', oc, vs, tt, rfl, z1, z2, z3⟩
  have ex : Ext GX H G HZ := fun b o z => keep b o z
  have rX' : DRel X.K σ HZ ρX G := rX.ext ex r.gok
  have un : Un (frs X.stack) [] H HZ s.heap s1.heap := I1.base
  refine PySem.W.callWith_F0 ⟨_, _, _, _, of1⟩ ?_
  have rc : codeAny (model X.prog X.w) (X.A.deeper (envOfC qg sg s.heap.objs.size g cdg)) (.call (.ref f) ⟨[], []⟩) (CR (L2.CX X.prog X.w) (envOfC qg sg s.heap.objs.size g cdg :: X.stack) X.prog X.w HZ s1 QZ (fun c d H' => W c d σZ H')) s1 := by
    refine PySem.W.kla_callFunE hr.depth of1 rfl L.co L.gen rfl ofc ?_
    rw [hbind]
    refine wpAny_pure (wpAny_newFunctionEnv (fun y hy => (L.own y hy).2) (fun y hy => absurd hy (by simp)) (fun h₁ hns hsb => ⟨I1.nolimit.fresh _ hsb, ?_⟩) L.kind)
    show codeAny _ _ (.expr body (lamEnv X scope s1.heap.objs.size f c')) _ _
    have kp : ∀ b o, s1.heap.get? b = some o → h₁.get? b = some o := fun b o z => hsb.extBut b o (Nat.ne_of_lt (Heap.lt_size z)) (Heap.get?_push_of_some _ z)
    have J : Inv (lamCx X (X.A.deeper (envOfC qg sg s.heap.objs.size g cdg)) (envOfC qg sg s.heap.objs.size g cdg :: X.stack) s1 HZ (fun c d H' => W c d σZ H') scope f c') [] σ HZ { s1 with heap := h₁, toks := s1.toks + ([] : List (Str × Value)).length } :=
      lam_start2 I L I1.env0 hr.hd un hns kp
    have gdd : ((X.A.deeper (envOfC qg sg s.heap.objs.size g cdg)).deeper (lamEnv X scope s1.heap.objs.size f c')).guards = some [] := hgd
    have hb := hbody _ (envOfC qg sg s.heap.objs.size g cdg :: X.stack) s1 HZ (fun c d H' => W c d σZ H') f c' (hr.deeper _) gdd (takes_of rfl rfl rfl rfl)
    refine PySem.W.kla_codeExpr (wpAny_mono (hb.run [] _ _ HZ QZ J ⟨ρX, G, Q, _, rX', ht, fun v d H' G' e2 r2 v2 h2 => ?_, fun x c od σ' H' ρ' G' e2 r2 rx hz => ?_⟩) (fun v s' hq => ?_) fun e s' hq => hq)
    · exact kq v d H' G' e2 (r.ext e2 r2.gok) v2 h2
    · exact kz x c od σZ H' ρ G' e2 (r.ext e2 r2.gok) rx hz
    · obtain ⟨w', H', J', rv, q⟩ := hq
      exact ⟨w', H', J'.os, J'.bare, J'.base, J'.hok, rv, q⟩
  refine wpAny_call (codeAny_mono rc fun r2 s' hq => ?_)
  cases r2 with
  | error e => exact passAt tk σZ pinsZ HZ s1 e s' I1 hq
  | ok fl =>
    cases fl with
    | ret u => exact I1.after hq
    | next => exact False.elim hq
    | brk => exact False.elim hq
    | cont => exact False.elim hq
end

structure Hearer (P : Program) (w : World) (K : PySem.W.Frag) (mg : Str → Option Value) (base : Heap) (k : Nat) (x : Str) (rH : Act → DTS) (n : Nat) : Prop where
  ex : ∃ (g : Addr) (pg : Arguments) (bg : List Stmt) (sg : Scope) (Ng : List Str) (a : Str) (dV kV doc pm cdv ct oc : Value) (an od : Option Addr) (osl : Array (Option Value)),
    mg x = some (.ref g) ∧ PySem.W.keepIn K (.ref g) = true ∧ K.lookup g = some ⟨oc, od, .func (PySem.W.fnOf x x pg bg sg dV kV doc pm an cdv ct), osl⟩ ∧ PySem.W.codeIn K cdv x = true ∧ L2.Binds K (PySem.W.fnOf x x pg bg sg dV kV doc pm an cdv ct) [a] [] ∧
    FnScope Ng [a] sg ∧ Ng.length = n ∧ Ng[0]? = some a ∧ Vis sg a ∧ (a == ("__debug__" : Str)) = false ∧ (a == ("__classdict__" : Str)) = false ∧
    ∀ (A : Around) (out : List Env) (st : Shared) (H : Hp) (α : Act), Room (k + 1) (A.deeper (envOfC x sg st.heap.objs.size g cdv)) → (A.deeper (envOfC x sg st.heap.objs.size g cdv)).guards = some [] →
      (∀ (W : WX) (pn : List (Addr × Obj)) (xe : Value → Shared → Prop) (p1 p2 : Pos), Takes ((cxOf CX0 P w K mg base Ng x sg g cdv A out st H E0).tr pn xe) W →
        XE1 ((cxOf CX0 P w K mg base Ng x sg g cdv A out st H E0).tr pn xe) W (.Call (.Name a p1) [] [] p2) (xAct 0 α)) →
      DSs (cxOf CX0 P w K mg base Ng x sg g cdv A out st H E0).nox bg (rH α)
structure LamI where
  q : Str
  φ : Addr → Addr → Heap → Prop
  t : XTE
def dHear (rH : Act → DTS) (n : Nat) (Ls : List LamI) (te : DTE) : DTE := fun ρ G Q => te ρ G fun d G1 => ∃ l ∈ Ls, ∃ n0 H0, d = .fn l.q l.φ n0 H0 ∧
  ∀ n1 H1, rH ⟨l.q, l.φ, n1, H1, fun E' G' Q' => l.t (fun x _ G2 => E' x G2) ρ G' Q'⟩ { nx := fun _ G' => Q .non G', rt := Q } (some (.fn l.q l.φ n1 H1) :: List.replicate (n - 1) none) G1
def LamOf (X : Cx) (k : Nat) (l : LamI) : Prop := ∃ (params : Arguments) (body : Expr) (scope : Scope),
  l.q = X.env.qual ++ "<lambda>" ∧ l.φ = lamP (X.env.qual ++ "<lambda>") params body scope (cloFrom X.env.cells scope.names []) ∧ LamS X.env.scope scope ∧
  (∀ (cl : List (Str × Addr)) (pm cv ctv : Value), bindArgs (PySem.W.kla_fn "<lambda>" (X.env.qual ++ "<lambda>") params body scope cl pm cv ctv) ⟨[], []⟩ = pure []) ∧
  ∀ (A : Around) (outer : List Env) (s : Shared) (H : Hp) (E : XK) (f c' : Addr), Room k (A.deeper (lamEnv X scope s.heap.objs.size f c')) → (A.deeper (lamEnv X scope s.heap.objs.size f c')).guards = some [] →
    Takes (lamCx X A outer s H E scope f c') (fun c d _ H' => E c d H') → XE1 (lamCx X A outer s H E scope f c') (fun c d _ H' => E c d H') body l.t
section
variable {X : Cx} {k n : Nat} {x : Str} {rH : Act → DTS} {Ls : List LamI} {e : Expr} {te : DTE} {p pos : Pos}
theorem de_hear (C : Hearer X.prog X.w X.K X.mg X.base k x rH n) (hL : ∀ l ∈ Ls, LamOf X k l) (hr : Room (k + 2) X.A) (hgd : X.A.guards = some []) (hg : Gl X x) (he : DE X e te) (hdb : (x == ("__debug__" : Str)) = false := by decide)
    (hst : starEach [e] X.env = (false, eval e X.env) :: starEach [] X.env := by rfl) (hpl : (backTo pos (starEach [] X.env)).any (·.1) = false := by rfl) : DE X (.Call (.Name x p) [e] [] pos) (dHear rH n Ls te) := by
  obtain ⟨g, pg, bg, sg, Ng, a, dV, kV, doc, pm, cdv, ct, oc, an, od, osl, hm, hk, lk, hcg, hb, Sg, hn, hNg, hva, hd1, hd2, hG⟩ := C.ex
  refine ⟨fun pins s σ H Qv I hh => ?_⟩
  obtain ⟨ρ, G, Q, r, h, kq⟩ := hh
  refine wpAny_Call_Name_kw (ld_glob I hg hm ?_ hdb)
  have ha : DA X [e] (dCons te dNil) := da_cons he da_nil hst
  refine PySem.W.callWith_K (h₀ := X.base) I.ok.mod.kin hk ?_ hst hpl
  let PP : D → GH → Prop := fun d G1 => ∃ l ∈ Ls, ∃ n0 H0, d = .fn l.q l.φ n0 H0 ∧
    ∀ n1 H1, rH ⟨l.q, l.φ, n1, H1, fun E' G' Q' => l.t (fun x _ G2 => E' x G2) ρ G' Q'⟩ { nx := fun _ G' => Q .non G', rt := Q } (some (.fn l.q l.φ n1 H1) :: List.replicate (n - 1) none) G1
  refine thn (ha.run pos pins s σ H (fun vs H1 => ∃ ds G1, Ext G H G1 H1 ∧ DRel X.K σ H1 ρ G1 ∧ RepL X.K G1 H1 ds vs ∧ match ds with | [d] => PP d G1 | _ => False) I
    ⟨ρ, G, fun ds G1 => match ds with | [d] => PP d G1 | _ => False, r, h, fun vs ds H1 G1 e1 r1 v1 h1 => ⟨ds, G1, e1, r1, v1, h1⟩⟩) ?_
  rintro us s1 ⟨xs, H1, I1, rv, ds, G1, e1, r1, v1, h1⟩
  match ds, h1 with
  | [d], h1 =>
    obtain ⟨l, hl, n0, H0, rfl, hrun⟩ := h1
    obtain ⟨params, body, scope, lq, lφ, LS, hbind, hbody⟩ := hL l hl
    unfold RepL at v1
    obtain ⟨v, ys, rfl, v1, v2⟩ := v1
    unfold RepL at v2
    subst v2
    unfold RepV at v1
    obtain ⟨f, c', rfl, gf, hf, gc, hc, _⟩ := v1
    cases rv with
    | @cons _ u _ ur ru rr =>
    cases rr
    obtain rfl : u = Value.ref f := ru
    refine ⟨I1.kIn, ?_⟩
    have rep : RepV X.K G1 H1 (.fn l.q l.φ (fun b => G1 b = none) H1) (.ref f) := by
      unfold RepV
      exact ⟨f, c', rfl, gf, hf, gc, hc, fun b o z => ⟨⟨o, z⟩, fun y => ⟨y, z⟩⟩⟩
    have hne : 0 < Ng.length := by
      rcases Nat.eq_zero_or_pos Ng.length with z | z
      · rw [List.length_eq_zero_iff.mp z] at hNg; cases hNg
      · exact z
    have est : startD Ng.length [(.fn l.q l.φ (fun b => G1 b = none) H1 : D)] = some (.fn l.q l.φ (fun b => G1 b = none) H1) :: List.replicate (n - 1) none := by
      unfold startD
      rw [hn]
      rfl
    have rc : codeAny (model X.prog X.w) X.A (.call (.ref g) ⟨[.ref f], []⟩) (CR CX0 X.stack X.prog X.w H1 s1 Qv E0) s1 := by
      refine run_ofS (N := Ng) (ps := [a]) (us := [.ref f]) (vs := [.ref f]) lk hcg Sg (k := k + 1) hr I1.env0 (hb s1 [.ref f] I1.kIn rfl) (.cons rfl .nil) rfl fun hr' => ?_
      have gdd : (X.A.deeper (envOfC x sg s1.heap.objs.size g cdv)).guards = some [] := hgd
      have B := hG X.A X.stack s1 H1 ⟨l.q, l.φ, fun b => G1 b = none, H1, fun E' G' Q' => l.t (fun x _ G2 => E' x G2) ρ G' Q'⟩ hr' gdd (fun W pn xe p1 p2 tk => by
        rw [lq, lφ]
        exact act_of I1 r1 LS hbind hr' hgd tk hbody hNg hva hd1 hd2)
      refine ⟨_, B.nox, startD Ng.length [.fn l.q l.φ (fun b => G1 b = none) H1], G1, { nx := fun _ G' => Q .non G', rt := Q }, start_rel (repL_one rep) r1.gok, ?_, ?_, ?_, ?_, ?_⟩
      · rw [est]
        exact hrun _ _
      · exact fun σ' ρ' H' G' e' r' h' => kq .non .non H' G' (e1.trans e') (r1.ext e' r'.gok) (by unfold RepV; rfl) h'
      · exact fun v d H' G' e' g' v' h' => kq v d H' G' (e1.trans e') (r1.ext e' g') v' h'
      · exact fun _ _ _ _ _ _ z => z.elim
      · exact fun _ _ _ _ _ _ z => z.elim
    refine wpAny_call (codeAny_mono rc fun r2 s' hq => ?_)
    cases r2 with
    | error e => exact (show False from hq).elim
    | ok fl =>
      cases fl with
      | ret u => exact I1.after hq
      | next => exact False.elim hq
      | brk => exact False.elim hq
      | cont => exact False.elim hq
end
end Dl

namespace Dl
open PySem L2 PyProof.Rows

abbrev CTab := List (Str × List Str × List Str)
def CTab.names (T : CTab) : List Str := T.map (·.1)
structure ExT1 (K : PySem.W.Frag) (T : CTab) (c : Str) (as fs : List Str) : Prop where
  cl : (PySem.W.clsIn K (He.ga K c)).isSome = true
  xf : XfC K (He.ga K c)
  ha : PySem.W.findIn K (.ref (He.ga K c)) "__class__" = some (some (.builtin "object.__class__"))
  hn : PySem.W.specialIn K (.builtin "object.__class__") "__get__" = some (some (.builtin "getset_descriptor.__get__"))
  ht : PySem.W.takesIn K (.builtin "object.__class__") = some true
  hm : PySem.W.mroIn K (He.ga K c) (.type "object") = some true
  ve : PySem.W.kitOne K (.ref (He.ga K c)) (.type "ValueError") = some true
  no : ∀ f ∈ fs, PySem.W.findIn K (.ref (He.ga K c)) f = some none
  sub : ∀ t ∈ T.names, PySem.W.kitOne K (.ref (He.ga K c)) (.ref (He.ga K t)) = some (as.contains t) ∧ PySem.W.exmOne K (.ref (He.ga K c)) (.ref (He.ga K t)) = some (as.contains t)
def ExT (K : PySem.W.Frag) (T : CTab) : Prop := ∀ c as fs, (c, as, fs) ∈ T → ExT1 K T c as fs
def exT1B (K : PySem.W.Frag) (T : CTab) (c : Str) (as fs : List Str) : Bool :=
  (PySem.W.clsIn K (He.ga K c)).isSome && (xfB K (He.ga K c) && (decide (PySem.W.findIn K (.ref (He.ga K c)) "__class__" = some (some (.builtin "object.__class__"))) && (decide (PySem.W.specialIn K (.builtin "object.__class__") "__get__" = some (some (.builtin "getset_descriptor.__get__"))) &&
  (decide (PySem.W.takesIn K (.builtin "object.__class__") = some true) && (decide (PySem.W.mroIn K (He.ga K c) (.type "object") = some true) && (decide (PySem.W.kitOne K (.ref (He.ga K c)) (.type "ValueError") = some true) && (fs.all (fun f => decide (PySem.W.findIn K (.ref (He.ga K c)) f = some none)) &&
  T.names.all fun t => decide (PySem.W.kitOne K (.ref (He.ga K c)) (.ref (He.ga K t)) = some (as.contains t)) && decide (PySem.W.exmOne K (.ref (He.ga K c)) (.ref (He.ga K t)) = some (as.contains t)))))))))
def exTB (K : PySem.W.Frag) (T : CTab) : Bool := T.all fun p => exT1B K T p.1 p.2.1 p.2.2
theorem exTB_ok {K : PySem.W.Frag} {T : CTab} (h : exTB K T = true) : ExT K T := by
  intro c as fs hm
  have h1 := List.all_eq_true.mp h _ hm
  unfold exT1B at h1
  simp only [Bool.and_eq_true, decide_eq_true_eq, List.all_eq_true] at h1
  obtain ⟨a1, a2, a3, a4, a5, a6, a7, a8, a9⟩ := h1
  exact ⟨a1, xfB_ok a2, a3, a4, a5, a6, a7, a8, a9⟩

def dIsX (CT : CTab) (a : Addr) (c : Str) (d : Addr) (te : DTE) (T : Str) : DTE := fun ρ G Q => te ρ G fun v G1 => (∃ ns vs, v = .exh a c d ns vs) ∧ ∃ as fs, (c, as, fs) ∈ CT ∧ T ∈ CT.names ∧ Q (.bl (as.contains T)) G1
def dExf (CT : CTab) (a : Addr) (c : Str) (d : Addr) (te : DTE) (f : Str) : DTE := fun ρ G Q => te ρ G fun v G1 => ∃ ns vs y, v = .exh a c d ns vs ∧ (∃ as fs, (c, as, fs) ∈ CT ∧ f ∈ fs) ∧ (ns.zip vs).lookup f = some y ∧ Q y G1
theorem zip_look {K : PySem.W.Frag} {G : GH} {H : Hp} {f : Str} : ∀ {ns : List Str} {vs : List D} {ws : List (Str × V)} {y : D}, ws.map (·.1) = ns → RepL K G H vs (ws.map (·.2)) → (ns.zip vs).lookup f = some y → ∃ v, ws.lookup f = some v ∧ RepV K G H y v
  | [], _, _, _, _, _, h => by simp at h
  | _ :: _, [], _, _, _, _, h => by simp at h
  | n :: ns, d :: vs, ws, y, e, r, h => by
    match ws, e, r with
    | [], e, _ => simp at e
    | (m, v) :: ws, e, r =>
      simp only [List.map_cons, List.cons.injEq] at e r
      unfold RepL at r
      obtain ⟨x, t, e1, r1, r2⟩ := r
      simp only [List.cons.injEq] at e1
      obtain ⟨rfl, rfl⟩ := e1
      obtain ⟨rfl, e9⟩ := e
      simp only [List.zip_cons_cons, List.lookup_cons] at h ⊢
      cases q : (f == m) with
      | true =>
        rw [q] at h
        cases h
        exact ⟨v, rfl, r1⟩
      | false =>
        rw [q] at h
        exact zip_look e9 r2 h
section
variable {X : Cx} {CT : CTab} {a d : Addr} {c T f : Str} {oe : Obj} {pn : List (Addr × Obj)} {e : Expr} {te : DTE} {p pt pos : Pos}
theorem inst_exh (hz : Zc (.ref (He.ga X.K c)) (some d) oe) (hf : ∃ vs, oe.data = .fields vs) {pins : List (Addr × Obj)} {σ : L2.St} {H : Hp} {s : Shared} {ws : List (Str × V)} (I : Inv (X.suite a ((a, oe) :: pn)) pins σ H s) (hx : H d = some (.xd ws)) :
    ∃ od, PySem.W.InstAt s.heap a oe (He.ga X.K c) (some od) := by
  obtain ⟨hget, _⟩ := I.pin (a, oe) (List.mem_append.mpr (.inl List.mem_cons_self))
  obtain ⟨vs, hv⟩ := hf
  have ox : ObjOk X.prog X.w H s.heap d (.xd ws) := I.hok d _ hx
  obtain ⟨mA, ⟨od, es, ep, ho, hr⟩, _⟩ := ox
  refine ⟨od, ?_⟩
  obtain ⟨oc, odd, oda, osl⟩ := oe
  obtain ⟨z1, z2⟩ := hz
  dsimp only at z1 z2 hv
  subst z1 z2 hv
  exact ⟨hget, rfl, rfl, ho⟩
theorem call_isX (ET : ExT X.K CT) (hz : Zc (.ref (He.ga X.K c)) (some d) oe) (hf : ∃ vs, oe.data = .fields vs) : CallR (X.suite a ((a, oe) :: pn)) (.builtin "isinstance") (fun xs H Q => ∃ (as fs : List Str) (ws : List (Str × V)) (v : V) (b : Bool), xs = [V.ref a, v] ∧ (c, as, fs) ∈ CT ∧ H d = some (.xd ws) ∧
    ((∃ cv, (∀ u, RelV v u → u = cv) ∧ PySem.W.kitOne X.K (.ref (He.ga X.K c)) cv = some b) ∨ ∃ (t : Addr) (cs : List Addr), v = V.ref t ∧ H t = some (.tup (cs.map V.ref)) ∧ PySem.W.kitAny X.K (.ref (He.ga X.K c)) (cs.map Value.ref) = some b) ∧ Q (.bl b) H) := by
  intro pins s σ H xs us Q I r h
  obtain ⟨as, fs, ws, v, b, rfl, m1, hx, hc, q⟩ := h
  have E1 := ET c as fs m1
  obtain ⟨od, J⟩ := inst_exh hz hf I hx
  cases r with
  | @cons _ u1 _ ur1 rx rr =>
  cases rr with
  | @cons _ u2 _ ur2 rt rr =>
  cases rr
  obtain rfl : u1 = Value.ref a := rx
  have KX := PySem.W.kitx_exc (x := a) (ox := oe) (od := some od) E1.cl E1.xf.ga E1.xf.gg E1.xf.exC E1.ha E1.hn E1.ht E1.hm
  rcases hc with ⟨cv, h1, h2⟩ | ⟨t, cs, rfl, ht, h2⟩
  · rw [h1 _ rt]
    exact PySem.W.kia_one KX I.kIn J h2 (fun z => nomatch z) fun tk => ⟨.bl b, H, I.kept (t' := tk) fun _ _ z => z, rfl, q⟩
  · obtain rfl : u2 = Value.ref t := rt
    obtain ⟨hsz, its, rv, ⟨ot, p1, p2, n, p3⟩⟩ := I.hok t _ ht
    have e : its = cs.map Value.ref := by
      clear h2 ht p1 p2 p3 hsz
      induction cs generalizing its with
      | nil => cases rv; rfl
      | cons y ys ih =>
        simp only [List.map_cons] at rv
        cases rv with
        | cons r1 r2 =>
          rw [ih _ r2]
          cases r1
          rfl
    subst e
    obtain ⟨tc, tdd, tda, tsl⟩ := ot
    dsimp only at p2 p3
    subst p2 p3
    exact PySem.W.kia_tup KX I.kIn J p1 h2 (fun z => nomatch z) fun tk => ⟨.bl b, H, I.kept (t' := tk) fun _ _ z => z, rfl, q⟩
theorem de_isX (ET : ExT X.K CT) (hz : Zc (.ref (He.ga X.K c)) (some d) oe) (hf : ∃ vs, oe.data = .fields vs) (hI : Gl X "isinstance") (mI : X.mg "isinstance" = none) (hT : Gl X T) (mT : X.mg T = some (.ref (He.ga X.K T))) (he : DE (X.suite a ((a, oe) :: pn)) e te)
    (hdb : (T == ("__debug__" : Str)) = false := by decide) (h1 : starEach [e, .Name T pt] X.env = (false, eval e X.env) :: starEach [.Name T pt] X.env := by rfl) (hpl : (backTo pos (starEach [.Name T pt] X.env)).any (·.1) = false := by rfl)
    (h2 : starEach [.Name T pt] X.env = (false, eval (.Name T pt) X.env) :: starEach [] X.env := by rfl) :
    DE (X.suite a ((a, oe) :: pn)) (.Call (.Name "isinstance" p) [e, .Name T pt] [] pos) (dIsX CT a c d te T) := by
  have hp : PE (X.suite a ((a, oe) :: pn)) (.Name T pt) (tC (.ref (He.ga X.K T))) := pe_glob hT mT rfl hdb
  refine (pe_callB (X := X.suite a ((a, oe) :: pn)) (call_isX ET hz hf) hI mI (by first | rfl | kernel_rfl) (pa_cons he (pa_cons hp pa_nil h2) h1) (he := h1) (hpl := hpl)).imp fun σ H Q ⟨ρ, G, q, r, h, k⟩ => ?_
  refine ⟨ρ, G, _, r, h, fun v dv H1 G1 e1 r1 v1 hh => ?_⟩
  obtain ⟨⟨ns, vs, rfl⟩, as, fs, m1, m2, hq⟩ := hh
  unfold RepV at v1
  obtain ⟨ws, rfl, gd, hd, _, _⟩ := v1
  exact ⟨as, fs, ws, _, _, rfl, m1, hd, .inl ⟨_, fun u z => z, ((ET c as fs m1).sub T m2).1⟩, k _ _ H1 G1 e1 r1 (by unfold RepV; rfl) hq⟩
theorem de_exf (ET : ExT X.K CT) (hz : Zc (.ref (He.ga X.K c)) (some d) oe) (hf : ∃ vs, oe.data = .fields vs) (hm : ∃ as fs, (c, as, fs) ∈ CT ∧ f ∈ fs) (he : DE (X.suite a ((a, oe) :: pn)) e te) (hb : attributeBase e f X.env (eval e X.env) = eval e X.env := by rfl) :
    DE (X.suite a ((a, oe) :: pn)) (.Attribute e f pos) (dExf CT a c d te f) := by
  obtain ⟨as, fs, m1, m2⟩ := hm
  have E1 := ET c as fs m1
  refine (pe_xf E1.xf (E1.no f m2) hz hf he hb).imp fun σ H Q ⟨ρ, G, q, r, h, k⟩ => ?_
  refine ⟨ρ, G, _, r, h, fun v dv H1 G1 e1 r1 v1 hh => ?_⟩
  obtain ⟨ns, vs, y, rfl, _, hl, hq⟩ := hh
  unfold RepV at v1
  obtain ⟨ws, rfl, gd, hd, n1, rl⟩ := v1
  obtain ⟨u, hu, ru⟩ := zip_look n1 rl hl
  exact ⟨rfl, rfl, d, ws, u, rfl, hd, hu, k _ _ H1 G1 e1 r1 ru hq⟩
theorem de_exfA (ET : ExT X.K CT) (hz : Zc (.ref (He.ga X.K c)) (some d) oe) (hf : ∃ vs, oe.data = .fields vs) (he : DE (X.suite a ((a, oe) :: pn)) e te) (hb : attributeBase e f X.env (eval e X.env) = eval e X.env := by rfl) :
    DE (X.suite a ((a, oe) :: pn)) (.Attribute e f pos) (dExf CT a c d te f) := by
  by_cases hm : ∃ as fs, (c, as, fs) ∈ CT ∧ f ∈ fs
  · exact de_exf ET hz hf hm he hb
  · refine ⟨fun pins s σ H Q I hh => ?_⟩
    obtain ⟨ρ, G, q, r, h, k⟩ := hh
    refine attr_of hb (thn (he.run pins s σ H (fun _ _ => False) I ⟨ρ, G, _, r, h, fun v dv H1 G1 e1 r1 v1 hh => ?_⟩) fun u s1 z => ?_)
    · obtain ⟨ns, vs, y, rfl, m, _⟩ := hh
      exact hm m
    · obtain ⟨_, _, _, _, q⟩ := z
      exact q.elim
end

theorem DRel.unset {K : PySem.W.Frag} {σ : L2.St} {H : Hp} {ρ : DSt} {G : GH} (r : DRel K σ H ρ G) (i : Nat) : DRel K (σ.set i none) H (ρ.set i none) G := by
  have z := r.wipe [i]
  exact z
def dTry (CT : CTab) (T : Str) (i : Nat) (tb : XTS) (ts : Addr → Str → Addr → DTS) : DTS := fun E ρ G => tb (fun x ρ' G' => (∃ as fs, (x.cls, as, fs) ∈ CT ∧ as.contains T = true) ∧
  ∀ a d, ts a x.cls d { nx := fun ρ2 G2 => E.nx (ρ2.set i none) G2, rt := E.rt, bk := fun ρ2 G2 => E.bk (ρ2.set i none) G2, ct := fun ρ2 G2 => E.ct (ρ2.set i none) G2 } (ρ'.set i (some (.exh a x.cls d (x.fs.map (·.1)) (x.fs.map (·.2))))) G') E ρ G
section
variable {X : Cx} {CT : CTab} {T n : Str} {i : Nat} {body suite : List Stmt} {b₀ : Stmt} {np pos pos' : Pos} {tb : XTS} {ts : Addr → Str → Addr → DTS}
theorem ds_try (ET : ExT X.K CT) (hs : X.stack = X.env :: X.outer) (hf : X.env.frame = some X.env.locals) (hN : X.N.Nodup) (hi : X.N[i]? = some n) (hln : X.env.kindOf n = some .local) (hT : Gl X T) (mT : X.mg T = some (.ref (He.ga X.K T))) (hTn : T ∈ CT.names)
    (hb : ∀ (W : WX) (pn : List (Addr × Obj)) (xe : Value → Shared → Prop), Takes (X.tr pn xe) W → PassesOwn (model X.prog X.w) X.A X.env xe → XSs (X.tr pn xe) W body tb)
    (hsu : ∀ (a : Addr) (oe : Obj) (c : Str) (d : Addr) (pn : List (Addr × Obj)), Zc (.ref (He.ga X.K c)) (some d) oe → (∃ vs, oe.data = .fields vs) → DSs (X.suite a ((a, oe) :: pn)) (b₀ :: suite) (ts a c d))
    (hdb : (T == ("__debug__" : Str)) = false := by decide) :
    DS X (.Try body [.ExceptHandler (some (.Name T np)) (some n) (b₀ :: suite) pos'] [] [] pos) (dTry CT T i tb ts) := by
  refine PS.imp (ps_try_as (Wout := fun _ _ _ _ => False) (tb := fun W => upXS X.K W tb) (ts := fun a cls od D σ H => ∃ c d, cls = .ref (He.ga X.K c) ∧ od = some d ∧ upS X.K (ts a c d) D σ H) hs hf hN hi hln ⟨hT, hdb, .inl mT⟩ LamX.takes0 hb fun a oe cls od pn hz hv => ⟨fun pins s σ H D I hh => ?_⟩) ?_
  · obtain ⟨c, d, rfl, rfl, hh⟩ := hh
    exact (hsu a oe c d pn hz hv).run pins s σ H D I hh
  · intro D σ H hh
    obtain ⟨ρ, G, E, r, h, k1, k2, k3, k4⟩ := hh
    refine ⟨ρ, G, E, _, r, h, k1, k2, k3, k4, fun x c od σ' H' ρ' G' e r' rx hz => ?_⟩
    obtain ⟨rfl, d, ws, rfl, gd, hd, n1, rl⟩ := rx
    obtain ⟨⟨as, fs, m1, m2⟩, hz⟩ := hz
    refine ⟨true, by rw [← m2]; exact ((ET x.cls as fs m1).sub T hTn).2, fun _ a na => ?_, fun z => by cases z⟩
    refine ⟨x.cls, d, rfl, rfl, ρ'.set i (some (.exh a x.cls d (x.fs.map (·.1)) (x.fs.map (·.2)))), G', _, r'.set i (v := .ref a) (by unfold RepV; exact ⟨ws, rfl, gd, hd, n1, rl⟩), hz a d, ?_, ?_, ?_, ?_⟩
    · exact fun σ2 ρ2 H2 G2 e2 r2 h2 => k1 _ _ _ _ (e.trans e2) (r2.unset i) h2
    · exact fun v dv H2 G2 e2 g2 v2 h2 => k2 v dv H2 G2 (e.trans e2) g2 v2 h2
    · exact fun σ2 ρ2 H2 G2 e2 r2 h2 => k3 _ _ _ _ (e.trans e2) (r2.unset i) h2
    · exact fun σ2 ρ2 H2 G2 e2 r2 h2 => k4 _ _ _ _ (e.trans e2) (r2.unset i) h2
end
end Dl

namespace Dl
open PySem L2
@[simp] theorem ofString_inj {a b : String} : (Str.ofString a = Str.ofString b) ↔ a = b := by
  rw [Str.ofString_eq_toList, Str.ofString_eq_toList]
  constructor
  · intro h
    have h1 : (a.toList.map Char.toNat).toArray = (b.toList.map Char.toNat).toArray := by injection h
    have h2 : a.toList.map Char.toNat = b.toList.map Char.toNat := by injection h1
    have h3 : a.toList = b.toList := by
      refine List.map_inj_right (f := Char.toNat) ?_ |>.mp h2
      intro x y e
      exact Char.ext (UInt32.toNat_inj.mp e)
    exact String.toList_inj.mp h3
  · rintro rfl; rfl
def Grow (G G' : GH) : Prop := ∀ a o, G a = some o → G' a = some o
theorem Grow.refl (G : GH) : Grow G G := fun _ _ h => h
theorem Grow.trans {G G1 G2 : GH} (h : Grow G G1) (k : Grow G1 G2) : Grow G G2 := fun a o e => k a o (h a o e)
theorem Grow.upd {G : GH} {p : Addr} {o : DO} (h : G p = none) : Grow G (updG G p o) := fun a u e => by
  rw [updG_ne]; exact e
  rintro rfl; rw [h] at e; cases e
theorem Grow.upd2 {G G' : GH} {p : Addr} {o : DO} (h : G p = none) (k : Grow G G') : Grow G (updG G' p o) := fun a u e => by
  rw [updG_ne]; exact k a u e
  rintro rfl; rw [h] at e; cases e
theorem Grow.drop {G G' : GH} {p : Addr} (h : G p = none) (k : Grow G G') : Grow G (dropG G' p) := fun a u e => by
  rw [dropG_ne]; exact k a u e
  rintro rfl; rw [h] at e; cases e
def pSp (R : List D → D → Prop) : DSp := fun ds G Q _ => ∃ d, R ds d ∧ ∀ G', Grow G G' → Q d G'
theorem dWhile_of {c : DTT} {tb : DTS} {E : DEnds} {I : Nat → DSt → GH → Prop}
    (h : ∀ n ρ G, I n ρ G → ∀ K : DSt → GH → Prop, (∀ m, m + 1 = n → ∀ ρ' G', I m ρ' G' → K ρ' G') → c ρ G fun b G1 => if b = true then tb { E with nx := K, ct := K, bk := E.nx } ρ G1 else E.nx ρ G1) :
    ∀ n ρ G, I n ρ G → dWhile c tb E ρ G := by
  have key : ∀ n ρ G, I n ρ G → dWhileGo c tb (n + 1) E ρ G := by
    intro n
    induction n with
    | zero => intro ρ G i; unfold dWhileGo; exact h 0 ρ G i _ (fun m e => by omega)
    | succ n ih =>
      intro ρ G i
      unfold dWhileGo
      refine h _ ρ G i _ ?_
      intro m e ρ' G' j
      have e2 : m = n := by omega
      subst e2
      exact ih ρ' G' j
  exact fun n ρ G i => ⟨n + 1, key n ρ G i⟩
theorem dForGo_of {ok : GH → Prop} {g : DTG} {tb : DTS} {E : DEnds} {I : List D → DSt → GH → Prop}
    (h0 : ∀ ρ G, I [] ρ G → ok G ∧ E.nx ρ G)
    (h : ∀ x xs ρ G, I (x :: xs) ρ G → ∀ K : DSt → GH → Prop, (∀ ρ' G', I xs ρ' G' → K ρ' G') → ok G ∧ g x ρ G fun ρ2 G2 => tb { E with nx := K, ct := K, bk := E.nx } ρ2 G2) :
    ∀ items ρ G, I items ρ G → dForGo ok g tb items E ρ G := by
  intro items
  induction items with
  | nil => intro ρ G i; unfold dForGo; exact h0 ρ G i
  | cons x xs ih => intro ρ G i; unfold dForGo; exact h x xs ρ G i _ ih
theorem dLcGo_of {ok : GH → Prop} {ct : CT} {te : DTE} {ρ : DSt} {p : Addr} {Q : DK} {I : List D → List D → GH → Prop}
    (h0 : ∀ acc G, I [] acc G → ok G ∧ Q (.ref p) G)
    (h : ∀ x xs acc G, I (x :: xs) acc G → ok G ∧ ∃ ρ2, bindC ct x ρ = some ρ2 ∧ ∀ K : DK, (∀ y G4, G4 p = some (.lst acc) → acc.length < sizeLine → I xs (acc ++ [y]) (updG G4 p (.lst (acc ++ [y]))) → K y G4) → te ρ2 G K) :
    ∀ items acc G, I items acc G → dLcGo ok ct dYes te ρ p items G Q := by
  intro items
  induction items with
  | nil => intro acc G i; unfold dLcGo; exact h0 acc G i
  | cons x xs ih =>
    intro acc G i
    unfold dLcGo
    obtain ⟨a, ρ2, e, k⟩ := h x xs acc G i
    refine ⟨a, ?_⟩
    rw [e]
    simp only [dYes, if_true]
    refine k _ ?_
    intro y G4 e4 hl j
    rw [e4]
    exact ⟨hl, ih _ _ j⟩
def PureE (te : DTE) (ct : CT) (ρ : DSt) (x y : D) : Prop := ∃ ρ2, bindC ct x ρ = some ρ2 ∧ ∀ (G : GH) (K : DK), (∀ G', Grow G G' → K y G') → te ρ2 G K
mutual
/-- plain data with ints of few digits -/
def smD : D → Bool
  | .non => true
  | .bl _ => true
  | .int i => decide (i.natAbs < 10 ^ 12)
  | .str x => PyData.strOk x
  | .tup ds => smDs ds
  | .lst ds => smDs ds
  | _ => false
def smDs : List D → Bool
  | [] => true
  | d :: ds => smD d && smDs ds
end
mutual
def wtD : D → Nat
  | .str x => x.length
  | .int _ => 40
  | .tup ds => wtDs ds
  | .lst ds => wtDs ds
  | _ => 0
def wtDs : List D → Nat
  | [] => 0
  | d :: ds => wtD d + 1 + wtDs ds
end
mutual
theorem sm_pure : ∀ d : D, smD d = true → pureD d = true
  | .non, _ => by simp [pureD]
  | .bl _, _ => by simp [pureD]
  | .int _, _ => by simp [pureD]
  | .str x, h => by simpa [pureD, smD] using h
  | .tup ds, h => by simpa [pureD] using sms_pure ds (by simpa [smD] using h)
  | .lst ds, h => by simpa [pureD] using sms_pure ds (by simpa [smD] using h)
  | .byt _, h => by simp [smD] at h
  | .ref _, h => by simp [smD] at h
  | .scr _, h => by simp [smD] at h
  | .fn _ _ _ _, h => by simp [smD] at h
  | .exh _ _ _ _ _, h => by simp [smD] at h
theorem sms_pure : ∀ ds : List D, smDs ds = true → pureDs ds = true
  | [], _ => by simp [pureDs]
  | d :: ds, h => by
    simp only [smDs, Bool.and_eq_true] at h
    simp [pureDs, sm_pure d h.1, sms_pure ds h.2]
end
theorem log_small {i : Int} (h : i.natAbs < 10 ^ 12) : i.natAbs.log2 < 40 := by
  by_cases e : i.natAbs = 0
  · rw [e]; decide
  · exact (Nat.log2_lt e).mpr (Nat.lt_of_lt_of_le h (by decide))
mutual
theorem sm_few : ∀ d : D, smD d = true → fewD d = true
  | .non, _ => by simp [fewD]
  | .bl _, _ => by simp [fewD]
  | .int i, h => by
    simp only [smD, decide_eq_true_eq] at h
    have := log_small h
    simp only [fewD, decide_eq_true_eq]
    omega
  | .str x, h => by simp [fewD]
  | .tup ds, h => by simpa [fewD] using sms_few ds (by simpa [smD] using h)
  | .lst ds, h => by simpa [fewD] using sms_few ds (by simpa [smD] using h)
  | .byt _, h => by simp [smD] at h
  | .ref _, h => by simp [smD] at h
  | .scr _, h => by simp [smD] at h
  | .fn _ _ _ _, h => by simp [smD] at h
  | .exh _ _ _ _ _, h => by simp [smD] at h
theorem sms_few : ∀ ds : List D, smDs ds = true → fewDs ds = true
  | [], _ => by simp [fewDs]
  | d :: ds, h => by
    simp only [smDs, Bool.and_eq_true] at h
    simp [fewDs, sm_few d h.1, sms_few ds h.2]
end
mutual
theorem sm_short : ∀ d : D, smD d = true → (pyD d).intsShort 13 = true
  | .non, _ => by simp [pyD, PyData.intsShort]
  | .bl _, _ => by simp [pyD, PyData.intsShort]
  | .int i, h => by
    simp only [smD, decide_eq_true_eq] at h
    simp only [pyD, PyData.intsShort, decide_eq_true_eq]
    exact PyData.shown_int_le h
  | .str x, h => by simp [pyD, PyData.intsShort]
  | .tup ds, h => by simpa [pyD, PyData.intsShort] using sms_short ds (by simpa [smD] using h)
  | .lst ds, h => by simpa [pyD, PyData.intsShort] using sms_short ds (by simpa [smD] using h)
  | .byt _, h => by simp [smD] at h
  | .ref _, h => by simp [smD] at h
  | .scr _, h => by simp [smD] at h
  | .fn _ _ _ _, h => by simp [smD] at h
  | .exh _ _ _ _ _, h => by simp [smD] at h
theorem sms_short : ∀ ds : List D, smDs ds = true → PyData.intsShortAll 13 (pyDs ds) = true
  | [], _ => by simp [pyDs, PyData.intsShortAll]
  | d :: ds, h => by
    simp only [smDs, Bool.and_eq_true] at h
    simp [pyDs, PyData.intsShortAll, sm_short d h.1, sms_short ds h.2]
end
mutual
theorem sm_weight : ∀ d : D, smD d = true → (pyD d).weight ≤ wtD d
  | .non, _ => by simp [pyD, PyData.weight]
  | .bl _, _ => by simp [pyD, PyData.weight]
  | .int i, h => by
    simp only [smD, decide_eq_true_eq] at h
    have := log_small h
    simp only [pyD, PyData.weight, wtD]
    split <;> omega
  | .str x, h => by simp [pyD, PyData.weight, wtD, Str.length]
  | .tup ds, h => by simpa [pyD, PyData.weight, wtD] using sms_weight ds (by simpa [smD] using h)
  | .lst ds, h => by simpa [pyD, PyData.weight, wtD] using sms_weight ds (by simpa [smD] using h)
  | .byt _, h => by simp [smD] at h
  | .ref _, h => by simp [smD] at h
  | .scr _, h => by simp [smD] at h
  | .fn _ _ _ _, h => by simp [smD] at h
  | .exh _ _ _ _ _, h => by simp [smD] at h
theorem sms_weight : ∀ ds : List D, smDs ds = true → PyData.weightAll (pyDs ds) ≤ wtDs ds
  | [], _ => by simp [pyDs, PyData.weightAll]
  | d :: ds, h => by
    simp only [smDs, Bool.and_eq_true] at h
    have h1 := sm_weight d h.1
    have h2 := sms_weight ds h.2
    simp only [pyDs, PyData.weightAll, wtDs]
    omega
end
theorem okD_of {d : D} (h : smD d = true) (k : depD d ≤ 64) : okD d := ⟨sm_pure d h, k⟩
theorem shw_of {d : D} (hs : isSeqD d = true) (h : smD d = true) (k : depD d ≤ 64) (z : wtD d ≤ 2 ^ 20) : Shw d := by
  refine ⟨hs, okD_of h k, sm_few d h, ?_⟩
  have e := sm_weight d h
  have hl : PyData.layable0 (pyD d) = true := by
    unfold PyData.layable0
    rw [lay_py d (sm_pure d h), depth_py, decide_eq_true k, decide_eq_true (by omega)]
    rfl
  have := PyProof.Rows.shown_le13 hl (sm_short d h)
  unfold shD
  have e2 : sizeLine = 16777216 := by decide
  omega
theorem ixN_at {n j : Nat} (hj : j < n) : ixN n (j : Int) = some j := by
  unfold ixN
  rw [if_pos (Int.natCast_nonneg j), if_pos (by omega)]
  simp
theorem atI_nat {α : Type} {xs : List α} {i : Nat} {x : α} (h : xs[i]? = some x) : atI xs (i : Int) = some x := by
  have hl : i < xs.length := by
    rcases Nat.lt_or_ge i xs.length with q | q
    · exact q
    · rw [List.getElem?_eq_none q] at h; cases h
  unfold atI
  rw [ixN_at hl]
  exact h
@[simp] theorem atI_0 {α : Type} {x : α} {xs : List α} : atI (x :: xs) 0 = some x := atI_nat (i := 0) rfl
@[simp] theorem atI_1 {α : Type} {x y : α} {xs : List α} : atI (x :: y :: xs) 1 = some y := atI_nat (i := 1) rfl
@[simp] theorem atI_2 {α : Type} {x y z : α} {xs : List α} : atI (x :: y :: z :: xs) 2 = some z := atI_nat (i := 2) rfl
@[simp] theorem atI_3 {α : Type} {x y z u : α} {xs : List α} : atI (x :: y :: z :: u :: xs) 3 = some u := atI_nat (i := 3) rfl
@[simp] theorem atI_4 {α : Type} {x y z u v : α} {xs : List α} : atI (x :: y :: z :: u :: v :: xs) 4 = some v := atI_nat (i := 4) rfl
end Dl

namespace Dl
open PySem L2
inductive Wk where
  | tick (n : Int)
  | sme (a b : Int) (t : Bool)
  | lop (a b : Int) (t : Bool) (w : Wk)
  | eit (ws : List Wk)
  | row (ws : List Wk)
  | bes (a b : Wk)
mutual
def toD : Wk → D
  | .tick n => .tup [.str "tick", .int n]
  | .sme a b t => .tup [.str "some", .int a, .int b, .bl t]
  | .lop a b t w => .tup [.str "loop", .int a, .int b, .bl t, toD w]
  | .eit ws => .tup [.str "either", .tup (toDs ws)]
  | .row ws => .tup [.str "row", .tup (toDs ws)]
  | .bes a b => .tup [.str "beside", toD a, toD b]
def toDs : List Wk → List D
  | [] => []
  | w :: ws => toD w :: toDs ws
end
theorem toDs_map : ∀ ws : List Wk, toDs ws = ws.map toD
  | [] => by simp [toDs]
  | w :: ws => by simp [toDs, toDs_map ws]
@[simp] theorem toDs_len (ws : List Wk) : (toDs ws).length = ws.length := by rw [toDs_map]; simp
theorem toDs_app (a b : List Wk) : toDs (a ++ b) = toDs a ++ toDs b := by simp [toDs_map]
inductive Sg where
  | tick
  | more
  | fin
  | many (n : Int)
  | way (i : Nat)
  | left (s : Sg)
  | right (s : Sg)
def sgD : Sg → D
  | .tick => .str "tick"
  | .more => .str "more"
  | .fin => .str "end"
  | .many n => .tup [.str "many", .int n]
  | .way i => .tup [.str "way", .int (i : Nat)]
  | .left s => .tup [.str "left", sgD s]
  | .right s => .tup [.str "right", sgD s]
mutual
/-- numbers from 0 to B, in order; ticks at least 1; a way at least -/
def okW (B : Int) : Wk → Prop
  | .tick n => 1 ≤ n ∧ n ≤ B
  | .sme a b _ => 0 ≤ a ∧ a ≤ b ∧ b ≤ B
  | .lop a b _ w => 0 ≤ a ∧ a ≤ b ∧ b ≤ B ∧ okW B w
  | .eit ws => ws ≠ [] ∧ okWs B ws
  | .row ws => okWs B ws
  | .bes a b => okW B a ∧ okW B b
def okWs (B : Int) : List Wk → Prop
  | [] => True
  | w :: ws => okW B w ∧ okWs B ws
end
mutual
/-- the most that may stand there at once, loops unrolled -/
def zW : Wk → Nat
  | .tick _ => 2
  | .sme _ _ _ => 2
  | .lop _ b _ w => 2 + (b.toNat + 1) * (zW w + 1)
  | .eit ws => 1 + zWs ws
  | .row ws => 1 + zWs ws
  | .bes a b => 1 + zW a + zW b
def zWs : List Wk → Nat
  | [] => 0
  | w :: ws => zW w + zWs ws
end
mutual
/-- tuples within one another -/
def dpW : Wk → Nat
  | .tick _ => 1
  | .sme _ _ _ => 1
  | .lop _ _ _ w => 1 + dpW w
  | .eit ws => 2 + dpWs ws
  | .row ws => 2 + dpWs ws
  | .bes a b => 1 + max (dpW a) (dpW b)
def dpWs : List Wk → Nat
  | [] => 0
  | w :: ws => max (dpW w) (dpWs ws)
end
mutual
def pW : Wk → Nat
  | .tick _ => 3
  | .sme _ _ _ => 3
  | .lop _ _ _ w => 3 + max (dpW w) (pW w)
  | .eit ws => 4 + max (dpWs ws) (pWs ws)
  | .row ws => pWs ws
  | .bes a b => 3 + max (pW a) (pW b)
def pWs : List Wk → Nat
  | [] => 2
  | w :: ws => max (pW w) (pWs ws)
end
structure Bh (B : Int) (w v : Wk) : Prop where
  ok : okW B v
  z : zW v ≤ zW w
  dp : dpW v ≤ dpW w + 2
  p : pW v ≤ pW w
end Dl

namespace Dl
open PySem L2
theorem smDs_iff : ∀ {ds : List D}, smDs ds = true ↔ ∀ d ∈ ds, smD d = true
  | [] => by simp [smDs]
  | d :: ds => by simp [smDs, smDs_iff (ds := ds)]
theorem depDs_le : ∀ {ds : List D} {n : Nat}, (∀ d ∈ ds, depD d ≤ n) → depDs ds ≤ n
  | [], n, _ => by simp [depDs]
  | d :: ds, n, h => by
    have h1 := h d (List.mem_cons_self ..)
    have h2 := depDs_le fun x hx => h x (List.mem_cons_of_mem _ hx)
    rw [depDs]; omega
theorem wtDs_le : ∀ {ds : List D} {n : Nat}, (∀ d ∈ ds, wtD d ≤ n) → wtDs ds ≤ ds.length * (n + 1)
  | [], n, _ => by simp [wtDs]
  | d :: ds, n, h => by
    have h1 := h d (List.mem_cons_self ..)
    have h2 := wtDs_le fun x hx => h x (List.mem_cons_of_mem _ hx)
    rw [wtDs, List.length_cons, Nat.succ_mul]; omega
theorem so_tick : PyData.strOk "tick" = true := by decide +kernel
theorem so_some : PyData.strOk "some" = true := by decide +kernel
theorem so_loop : PyData.strOk "loop" = true := by decide +kernel
theorem so_either : PyData.strOk "either" = true := by decide +kernel
theorem so_row : PyData.strOk "row" = true := by decide +kernel
theorem so_beside : PyData.strOk "beside" = true := by decide +kernel
theorem sl_tick : Str.length "tick" = 4 := by decide +kernel
theorem sl_some : Str.length "some" = 4 := by decide +kernel
theorem sl_loop : Str.length "loop" = 4 := by decide +kernel
theorem sl_either : Str.length "either" = 6 := by decide +kernel
theorem sl_row : Str.length "row" = 3 := by decide +kernel
theorem sl_beside : Str.length "beside" = 6 := by decide +kernel
theorem small12 {B n : Int} (hB : B ≤ 999) (h : 0 ≤ n) (k : n ≤ B) : decide (n.natAbs < 10 ^ 12) = true := by
  rw [decide_eq_true_eq]
  have e : (10 : Nat) ^ 12 = 1000000000000 := by decide
  omega
mutual
theorem sm_toD {B : Int} (hB : B ≤ 999) : ∀ w : Wk, okW B w → smD (toD w) = true
  | .tick n, h => by
    rw [okW] at h
    simp only [toD, smD, smDs, so_tick, small12 hB (show 0 ≤ n by omega) h.2, Bool.and_true]
  | .sme a b t, h => by
    rw [okW] at h
    simp only [toD, smD, smDs, so_some, small12 hB h.1 (show a ≤ B by omega), small12 hB (show 0 ≤ b by omega) h.2.2, Bool.and_true]
  | .lop a b t w, h => by
    rw [okW] at h
    simp only [toD, smD, smDs, so_loop, small12 hB h.1 (show a ≤ B by omega), small12 hB (show 0 ≤ b by omega) h.2.2.1, sm_toD hB w h.2.2.2, Bool.and_true]
  | .eit ws, h => by
    rw [okW] at h
    simp only [toD, smD, smDs, so_either, sm_toDs hB ws h.2, Bool.and_true]
  | .row ws, h => by
    rw [okW] at h
    simp only [toD, smD, smDs, so_row, sm_toDs hB ws h, Bool.and_true]
  | .bes a b, h => by
    rw [okW] at h
    simp only [toD, smD, smDs, so_beside, sm_toD hB a h.1, sm_toD hB b h.2, Bool.and_true]
theorem sm_toDs {B : Int} (hB : B ≤ 999) : ∀ ws : List Wk, okWs B ws → smDs (toDs ws) = true
  | [], _ => by simp [toDs, smDs]
  | w :: ws, h => by
    rw [okWs] at h
    simp only [toDs, smDs, sm_toD hB w h.1, sm_toDs hB ws h.2, Bool.and_true]
end
mutual
theorem dep_toD : ∀ w : Wk, depD (toD w) = dpW w
  | .tick n => by simp [toD, depD, depDs, dpW]
  | .sme a b t => by simp [toD, depD, depDs, dpW]
  | .lop a b t w => by simp [toD, depD, depDs, dpW, dep_toD w]; omega
  | .eit ws => by simp [toD, depD, depDs, dpW, dep_toDs ws]; omega
  | .row ws => by simp [toD, depD, depDs, dpW, dep_toDs ws]; omega
  | .bes a b => by simp [toD, depD, depDs, dpW, dep_toD a, dep_toD b]; omega
theorem dep_toDs : ∀ ws : List Wk, depDs (toDs ws) = dpWs ws
  | [] => by simp [toDs, depDs, dpWs]
  | w :: ws => by simp [toDs, depDs, dpWs, dep_toD w, dep_toDs ws]
end
structure SgOk (s : Sg) (n : Nat) : Prop where
  sm : smD (sgD s) = true
  dp : depD (sgD s) ≤ n + 1
  wt : wtD (sgD s) ≤ 46 + 7 * n
end Dl

namespace Dl
open PySem L2
section
variable {t u : DTS} {E : DEnds} {ρ : DSt} {G : GH} {Q : DK} {c : DTT} {te ta tb : DTE} {tl tr : DTA}
theorem iSeq (h : t { E with nx := u E } ρ G) : dSeq t u E ρ G := h
theorem iNext (h : E.nx ρ G) : dNext E ρ G := h
theorem iIfS (h : c ρ G fun b G1 => if b = true then t E ρ G1 else u E ρ G1) : dIfS c t u E ρ G := h
theorem iRet (h : te ρ G E.rt) : dRet te E ρ G := h
theorem iDrop (h : te ρ G fun _ G1 => E.nx ρ G1) : dDrop te E ρ G := h
theorem iAsg {g : DTG} (h : te ρ G fun x G1 => g x ρ G1 E.nx) : dAsg te g E ρ G := h
theorem iPar {i j : Nat} (h : tl ρ G fun ds G1 => match ds with
  | [v, w] => E.nx ((ρ.set i (some v)).set j (some w)) G1
  | _ => False) : dPar i j tl E ρ G := h
theorem iGNm {i : Nat} {d : D} {Qg : DSt → GH → Prop} (h : Qg (ρ.set i (some d)) G) : gNm i d ρ G Qg := h
theorem iGTp {n : Nat} {t : DTGs} {ds : List D} {Qg : DSt → GH → Prop} (e : ds.length = n) (h : t ds ρ G Qg) : gTp n t (.tup ds) ρ G Qg := ⟨e, h⟩
theorem iGsCons {t : DTG} {u : DTGs} {d : D} {ds : List D} {Qg : DSt → GH → Prop} (h : t d ρ G fun ρ1 G1 => u ds ρ1 G1 Qg) : gsCons t u (d :: ds) ρ G Qg := h
theorem iGsNil {Qg : DSt → GH → Prop} (h : Qg ρ G) : gsNil [] ρ G Qg := h
theorem iGSb {to ti : DTE} {st : DSet} {d : D} {Qg : DSt → GH → Prop} (h : to ρ G fun o G1 => ti ρ G1 fun i G2 => st o i d G2 fun G3 => Qg ρ G3) : gSb to ti st d ρ G Qg := h
theorem iVar {i : Nat} {d : D} (e : sl ρ i = some d) (h : Q d G) : dVar i ρ G Q := by unfold dVar; rw [e]; exact h
theorem iC {d : D} (h : Q d G) : dC d ρ G Q := h
theorem iNil {Ql : List D → GH → Prop} (h : Ql [] G) : dNil ρ G Ql := h
theorem iCons {Ql : List D → GH → Prop} (h : ta ρ G fun x G1 => tr ρ G1 fun xs G2 => Ql (x :: xs) G2) : dCons ta tr ρ G Ql := h
theorem iTup (h : tl ρ G fun xs G1 => xs.length ≤ sizeLine ∧ Q (.tup xs) G1) : dTup tl ρ G Q := h
theorem iLst (h : tl ρ G fun xs G1 => xs.length ≤ sizeLine ∧ ∀ p, G1 p = none → Q (.ref p) (updG G1 p (.lst xs))) : dLst tl ρ G Q := h
theorem lenOk {P : Prop} {n : Nat} (e : n.ble sizeLine = true) (h : P) : n ≤ sizeLine ∧ P := ⟨Nat.le_of_ble_eq_true e, h⟩
def frzK (Q : DK) : DK := fun d G1 => match d with
  | .ref p => (match G1 p with
    | some (.lst ds) => Q (.lst ds) (dropG G1 p)
    | _ => Q (.ref p) G1)
  | d => Q d G1
theorem iFrz (h : te ρ G (frzK Q)) : dFrz te ρ G Q := h
theorem frzEnd {G : GH} {xs : List D} {Q : DK} (h : Q (.lst xs) G) : ∀ p, G p = none → frzK Q (.ref p) (updG G p (.lst xs)) := by
  intro p hp
  unfold frzK
  dsimp only
  rw [updG_same]
  dsimp only
  rw [dropG_updG hp]
  exact h
theorem frzR {xs : List D} {p : Addr} (e : G p = some (.lst xs)) (h : Q (.lst xs) (dropG G p)) : frzK Q (.ref p) G := by
  unfold frzK
  dsimp only
  rw [e]
  exact h
theorem iOp {r : DR2} (h : ta ρ G fun x G1 => tb ρ G1 fun y G2 => r x y G2 Q) : dOp r ta tb ρ G Q := h
theorem iTst {Qb : Bool → GH → Prop} (h : te ρ G fun d G1 => match d with
  | .bl b => Qb b G1
  | _ => False) : dTst te ρ G Qb := h
theorem iTru {Qb : Bool → GH → Prop} (h : te ρ G fun d G1 => truP G1 d fun b => Qb b G1) : dTru te ρ G Qb := h
theorem iAnd {v w : DTT} {Qb : Bool → GH → Prop} (h : v ρ G fun c G1 => if c = true then w ρ G1 Qb else Qb false G1) : dAnd v w ρ G Qb := h
theorem iOr {v w : DTT} {Qb : Bool → GH → Prop} (h : v ρ G fun c G1 => if c = true then Qb true G1 else w ρ G1 Qb) : dOr v w ρ G Qb := h
theorem iNot {v : DTT} {Qb : Bool → GH → Prop} (h : v ρ G fun c G1 => Qb (!c) G1) : dNot v ρ G Qb := h
theorem iNotV (h : ta ρ G fun x G1 => match x with
  | .bl b => Q (.bl (!b)) G1
  | _ => False) : dNotV ta ρ G Q := h
theorem iIf (h : c ρ G fun b G1 => if b = true then ta ρ G1 Q else tb ρ G1 Q) : dIf c ta tb ρ G Q := h
theorem ifT {A B : Prop} (h : A) : if (true : Bool) = true then A else B := by rw [if_pos rfl]; exact h
theorem ifF {A B : Prop} (h : B) : if (false : Bool) = true then A else B := by rw [if_neg (by decide)]; exact h
theorem ifD {A B : Prop} {p : Prop} [Decidable p] (h1 : p → A) (h2 : ¬ p → B) : if (decide p) = true then A else B := by
  by_cases h : p
  · rw [if_pos (decide_eq_true h)]; exact h1 h
  · rw [if_neg (by simpa using h)]; exact h2 h
theorem iCall {sp : DSp} (h : tl ρ G fun ds G1 => sp ds G1 Q noX) : dCall sp tl ρ G Q := h
theorem iCB {r : DRC} (h : tl ρ G fun ds G1 => r ds G1 Q) : dCB r tl ρ G Q := h
theorem iMt {r : DRM} {to : DTE} (h : to ρ G fun x G1 => lstP G1 x fun _ _ => tl ρ G1 fun ds G2 => r x ds G2 Q) : dMt r to tl ρ G Q := h
theorem iSl {lo hi : DTO} (h : te ρ G fun x G1 => lo ρ G1 fun l G2 => hi ρ G2 fun u G3 => rSl x l u G3 Q) : dSl te lo hi ρ G Q := h
theorem iP {Qo : Option Int → GH → Prop} (h : te ρ G fun d G1 => match d with
  | .int i => Qo (some i) G1
  | _ => False) : dP te ρ G Qo := h
theorem iNoP {Qo : Option Int → GH → Prop} (h : Qo none G) : dNoP ρ G Qo := h
theorem iStar {Ql : List D → GH → Prop} (h : te ρ G fun x G1 => match sqOf G1 x with
  | some l => tr ρ G1 fun r G2 => Ql (l ++ r) G2
  | none => False) : dStar te tr ρ G Ql := h
def getKK (Q : DK) (G : GH) (kvs : List (Key × D)) (k : Key) : Prop := match getK kvs k with
  | some d => Q d G
  | none => False
theorem iDGet (h : ta ρ G fun x G1 => tb ρ G1 fun y G2 => dctP G2 x fun _ kvs => keyP y fun k => getKK Q G2 kvs k) : dDGet ta tb ρ G Q := h
theorem getK_i {kvs : List (Key × D)} {k : Key} {d : D} (e : getK kvs k = some d) (h : Q d G) : getKK Q G kvs k := by unfold getKK; rw [e]; exact h
def isiK (T : String) (Q : DK) : DK := fun d G1 => match tyD G1 d with
  | some s => Q (.bl (subT s T)) G1
  | none => False
theorem iIsi {T : String} (h : te ρ G (isiK T Q)) : dIsi T te ρ G Q := h
theorem isi_i {T : String} {d : D} {s : String} {b : Bool} (e : tyD G d = some s) (e2 : subT s T = b) (h : Q (.bl b) G) : isiK T Q d G := by unfold isiK; rw [e]; dsimp only; rw [e2]; exact h
theorem isi_T {T : String} {d : D} {s : String} (e : tyD G d = some s) (e2 : subT s T = true) (h : Q (.bl true) G) : isiK T Q d G := isi_i e e2 h
theorem isi_F {T : String} {d : D} {s : String} (e : tyD G d = some s) (e2 : subT s T = false) (h : Q (.bl false) G) : isiK T Q d G := isi_i e e2 h
theorem iFor {wi : DTI} {g : DTG} (h : wi ρ G fun items ok G1 => dForGo ok g t items E ρ G1) : dFor wi g t E ρ G := h
theorem iISq {Qi : List D → (GH → Prop) → GH → Prop} (h : te ρ G fun d G1 => match d with
  | .tup ds => Qi ds okAll G1
  | .lst ds => Qi ds okAll G1
  | .ref a => (match G1 a with
    | some (.lst ds) => Qi ds (fun G => G a = some (.lst ds)) G1
    | _ => False)
  | _ => False) : iSq te ρ G Qi := h
theorem iLc {wi : DTI} {ct : CT} {tt : DTT} {vs : List Nat} (h : wi ρ G fun items ok G1 => ∀ p, G1 p = none → dLcGo ok ct tt te (wipeD ρ vs) p items (updG G1 p (.lst [])) Q) : dLc wi ct tt te vs ρ G Q := h
theorem rIx_i {x d : D} {ds : List D} {i : Int} (e : sqOf G x = some ds) (e2 : atI ds i = some d) (h : Q d G) : rIx x (.int i) G Q := by
  unfold rIx; dsimp only; rw [e]; dsimp only; rw [e2]; exact h
theorem eq_ii {a b : Int} (h : Q (.bl (decide (a = b))) G) : rCmp id (.int a) (.int b) G Q := h
theorem eq_tt {a b : List D} (h1 : okD (.tup a)) (h2 : okD (.tup b)) (h : Q (.bl (eqvD (.tup a) (.tup b))) G) : rCmp id (.tup a) (.tup b) G Q := ⟨h1, h2, h⟩
theorem ne_tt {a b : List D} (h1 : okD (.tup a)) (h2 : okD (.tup b)) (h : Q (.bl (!eqvD (.tup a) (.tup b))) G) : rCmp not (.tup a) (.tup b) G Q := ⟨h1, h2, h⟩
theorem eq_ll {a b : List D} (h1 : okD (.lst a)) (h2 : okD (.lst b)) (h : Q (.bl (eqvD (.lst a) (.lst b))) G) : rCmp id (.lst a) (.lst b) G Q := ⟨h1, h2, h⟩
theorem ne_ll {a b : List D} (h1 : okD (.lst a)) (h2 : okD (.lst b)) (h : Q (.bl (!eqvD (.lst a) (.lst b))) G) : rCmp not (.lst a) (.lst b) G Q := ⟨h1, h2, h⟩
theorem eq_strT {a : Str} (h : Q (.bl true) G) : rCmp id (.str a) (.str a) G Q := by
  have : Q (.bl (decide (a = a))) G := by rw [decide_eq_true rfl]; exact h
  exact this
theorem eq_strF {a b : String} (e : (a == b) = false) (h : Q (.bl false) G) : rCmp id (.str (Str.ofString a)) (.str (Str.ofString b)) G Q := by
  have : Q (.bl (decide (Str.ofString a = Str.ofString b))) G := by rw [decide_eq_false (by rw [ofString_inj]; simpa using e)]; exact h
  exact this
theorem ne_strT {a : Str} (h : Q (.bl false) G) : rCmp not (.str a) (.str a) G Q := by
  have : Q (.bl (!decide (a = a))) G := by rw [decide_eq_true rfl]; exact h
  exact this
theorem add_ii {i j : Int} (h : Q (.int (i + j)) G) : rAdd (.int i) (.int j) G Q := h
theorem add_tt {a b : List D} (e : a.length + b.length ≤ sizeLine) (h : Q (.tup (a ++ b)) G) : rAdd (.tup a) (.tup b) G Q := ⟨e, h⟩
theorem slT {ds : List D} {lo hi : Option Int} (h : Q (.tup (cutD ds lo hi)) G) : rSl (.tup ds) lo hi G Q := h
theorem slS {ns : List Int} {lo hi : Option Int} (h : ∀ p, G p = none → Q (.ref p) (updG G p (.lst (cutD (ns.map D.int) lo hi)))) : rSl (.scr ns) lo hi G Q := h
theorem int2 {C : Int → Int → Prop} {f : Int → Int → D} {i j : Int} (e : C i j) (h : Q (f i j) G) : rInt C f (.int i) (.int j) G Q := ⟨e, h⟩
theorem int0 {f : Int → Int → D} {i j : Int} (h : Q (f i j) G) : rInt0 f (.int i) (.int j) G Q := h
theorem mul_ii {i j : Int} (e : CMul i j) (h : Q (.int (i * j)) G) : rMul (.int i) (.int j) G Q := ⟨e, h⟩
theorem mul_ti {a : List D} {k : Int} (e1 : -(2 ^ 63) ≤ k) (e2 : k ≤ 1000) (e3 : a.length ≤ 1000) (h : Q (.tup (List.replicate k.toNat a).flatten) G) : rMul (.tup a) (.int k) G Q := ⟨e1, e2, .inl e3, h⟩
theorem len_t {l : List D} (h : Q (.int l.length) G) : rLen [.tup l] G Q := h
theorem len_l {l : List D} (h : Q (.int l.length) G) : rLen [.lst l] G Q := h
theorem len_r {l : List D} {a : Addr} (e : G a = some (.lst l)) (h : Q (.int l.length) G) : rLen [.ref a] G Q := by unfold rLen arg1; dsimp only; rw [e]; exact h
theorem tupC_l {l : List D} (h : Q (.tup l) G) : rTupC [.lst l] G Q := h
theorem tupC_r {l : List D} {a : Addr} (e : G a = some (.lst l)) (h : Q (.tup l) G) : rTupC [.ref a] G Q := by unfold rTupC arg1 sqOf; dsimp only; rw [e]; exact h
theorem lstC_t {l : List D} (h : ∀ p, G p = none → Q (.ref p) (updG G p (.lst l))) : rLstC [.tup l] G Q := h
theorem lstC_l {l : List D} (h : ∀ p, G p = none → Q (.ref p) (updG G p (.lst l))) : rLstC [.lst l] G Q := h
theorem intC_i {i : Int} (h : Q (.int i) G) : rIntC [.int i] G Q := h
theorem lstP_i {a : Addr} {l : List D} {P : Addr → List D → Prop} (e : G a = some (.lst l)) (h : P a l) : lstP G (.ref a) P := by unfold lstP; dsimp only; rw [e]; exact h
theorem dctP_i {a : Addr} {l : List (Key × D)} {P : Addr → List (Key × D) → Prop} (e : G a = some (.dct l)) (h : P a l) : dctP G (.ref a) P := by unfold dctP; dsimp only; rw [e]; exact h
theorem keyP_s {x : Str} {P : Key → Prop} (h : P (.inr x)) : keyP (.str x) P := h
theorem app_i {a : Addr} {l : List D} {d : D} (e : G a = some (.lst l)) (z : l.length < sizeLine) (h : Q .non (updG G a (.lst (l ++ [d])))) : mAppend (.ref a) [d] G Q := lstP_i e ⟨z, h⟩
theorem ext_i {a : Addr} {l m : List D} {d : D} (e : G a = some (.lst l)) (e2 : sqOf G d = some m) (z : l.length + m.length ≤ sizeLine) (h : Q .non (updG G a (.lst (l ++ m)))) : mExtend (.ref a) [d] G Q := by
  refine lstP_i e ?_
  unfold arg1
  dsimp only
  rw [e2]
  exact ⟨z, h⟩
theorem pop_i {a : Addr} {l : List D} {d : D} (e : G a = some (.lst (l ++ [d]))) (h : Q d (updG G a (.lst l))) : mPop (.ref a) [] G Q := by
  refine lstP_i e ?_
  dsimp only
  rw [show (l ++ [d])[(l ++ [d]).length - 1]? = some d from by simp]
  dsimp only
  rw [List.dropLast_concat]
  exact h
theorem truB {b : Bool} {P : Bool → Prop} (h : P b) : truP G (.bl b) P := h
end
end Dl

namespace Dl
open PySem L2
theorem lc_map {α : Type} {ok : GH → Prop} {ct : CT} {te : DTE} {ρ : DSt} {p : Addr} {Q : DK} {g h : α → D} {xs : List α} {G : GH} (hp : G p = none) (hok : ∀ G, ok G) (hl : xs.length ≤ sizeLine) (hf : ∀ x ∈ xs, PureE te ct ρ (g x) (h x))
    (hq : ∀ G', Grow G G' → G' p = some (.lst (xs.map h)) → Q (.ref p) G') : dLcGo ok ct dYes te ρ p (xs.map g) (updG G p (.lst [])) Q := by
  refine dLcGo_of (I := fun rest acc G' => ∃ rs, rest = rs.map g ∧ acc ++ rs.map h = xs.map h ∧ (∀ x ∈ rs, x ∈ xs) ∧ Grow G G' ∧ G' p = some (.lst acc)) ?_ ?_ _ [] _ ⟨xs, rfl, rfl, fun _ h => h, Grow.upd hp, updG_same⟩
  · rintro acc G' ⟨rs, e0, e, -, gg, ep⟩
    cases rs with
    | cons => cases e0
    | nil =>
      refine ⟨hok _, hq _ gg ?_⟩
      rw [← e, List.map_nil, List.append_nil]
      exact ep
  · rintro x rest acc G' ⟨rs, e0, e, m, gg, ep⟩
    cases rs with
    | nil => cases e0
    | cons r rs =>
      injection e0 with e1 e2
      subst e1 e2
      obtain ⟨ρ2, e2, k⟩ := hf r (m r (List.mem_cons_self ..))
      refine ⟨hok _, ρ2, e2, fun K hK => k G' K fun G4 g4 => ?_⟩
      refine hK _ G4 (g4 _ _ ep) ?_ ⟨rs, rfl, ?_, fun y hy => m y (List.mem_cons_of_mem _ hy), Grow.upd2 hp (gg.trans g4), updG_same⟩
      · have := congrArg List.length e
        simp at this
        omega
      · rw [← e]; simp
theorem lcF {α : Type} (xs : List α) (g h : α → D) {wi : DTI} {ct : CT} {te : DTE} {ρ : DSt} {vs : List Nat} {G : GH} {Q : DK} (hw : ∀ P : List D → (GH → Prop) → GH → Prop, (∀ ok G1, (∀ G, ok G) → Grow G G1 → P (xs.map g) ok G1) → wi ρ G P)
    (hl : xs.length ≤ sizeLine) (hf : ∀ x ∈ xs, PureE te ct (wipeD ρ vs) (g x) (h x)) (hq : ∀ G', Grow G G' → Q (.lst (xs.map h)) G') : dLc wi ct dYes te vs ρ G (frzK Q) := by
  unfold dLc
  refine hw _ ?_
  intro ok G1 hok g1 p hp
  refine lc_map hp hok hl hf ?_
  intro G' gg e
  exact frzR e (hq _ (g1.trans (Grow.drop hp gg)))
section
variable {E : DEnds} {ρ : DSt} {G : GH} {Q : DK} {te ta tb : DTE} {tl : DTA} {Qi : List D → (GH → Prop) → GH → Prop}
theorem iIRg1 (h : tl ρ G fun ds G1 => match ds with
  | [.int j] => -(2 ^ 62) ≤ j ∧ j < 2 ^ 62 ∧ Qi (rngD 0 j.toNat) okAll G1
  | _ => False) : iRg1 tl ρ G Qi := h
theorem iIEnT (h : te ρ G fun d G1 => match d with
  | .tup ds => Qi (enumD ds) okAll G1
  | _ => False) : iEnT te ρ G Qi := h
theorem add_llb {a b : List D} (e : (a.length + b.length).ble sizeLine = true) (h : ∀ p, G p = none → Q (.ref p) (updG G p (.lst (a ++ b)))) : rAdd (.lst a) (.lst b) G Q := ⟨Nat.le_of_ble_eq_true e, h⟩
theorem add_ttb {a b : List D} (e : (a.length + b.length).ble sizeLine = true) (h : Q (.tup (a ++ b)) G) : rAdd (.tup a) (.tup b) G Q := ⟨Nat.le_of_ble_eq_true e, h⟩
end
@[simp] theorem rep_one {α : Type} (k : Nat) (x : α) : (List.replicate k [x]).flatten = List.replicate k x := by
  induction k with
  | zero => rfl
  | succ k ih => rw [List.replicate_succ, List.flatten_cons, ih, List.replicate_succ]; rfl
theorem cut1 (x : D) (xs : List D) : cutD (x :: xs) (some 1) none = xs := by
  unfold cutD HT.sIx
  simp
theorem rngD_map (lo : Int) (n : Nat) : rngD lo n = (List.range n).map fun i => D.int (lo + (i : Nat)) := rfl
theorem enumD_map (ds : List D) : enumD ds = (List.range ds.length).map fun i => D.tup [.int (i : Nat), ds.getD i .non] := rfl
end Dl

namespace Dl
open PySem L2
section
variable {E : DEnds} {ρ : DSt} {G : GH} {Q : DK} {te ta tb : DTE} {tl : DTA} {Qi : List D → (GH → Prop) → GH → Prop}
theorem inn_T {x y : D} {ds : List D} (e : sqOf G y = some ds) (h1 : flatD x = true) (h2 : ds.all flatD = true) (e3 : inD x ds = true) (h : Q (.bl true) G) : rInn id x y G Q := by
  unfold rInn; rw [e]; exact ⟨h1, h2, by rw [e3]; exact h⟩
theorem inn_F {x y : D} {ds : List D} (e : sqOf G y = some ds) (h1 : flatD x = true) (h2 : ds.all flatD = true) (e3 : inD x ds = false) (h : Q (.bl false) G) : rInn id x y G Q := by
  unfold rInn; rw [e]; exact ⟨h1, h2, by rw [e3]; exact h⟩
def dispK (Q : DK) (p : Addr) (ps : List (D × D)) (G2 : GH) : Prop := G2 p = some (.dct []) ∧ match keysD ps with
  | some kvs => kvs.length ≤ 15 ∧ Q (.ref p) (updG G2 p (.dct (mergeD [] kvs)))
  | none => False
theorem iDisp {trs : List (DTE × DTE)} (h : ∀ p, G p = none → dPairs trs ρ (updG G p (.dct [])) (dispK Q p)) : dDisp trs ρ G Q := h
theorem iPsN {Qp : List (D × D) → GH → Prop} (h : Qp [] G) : dPairs [] ρ G Qp := h
theorem iPsC {Qp : List (D × D) → GH → Prop} {r : List (DTE × DTE)} (h : ta ρ G fun x G1 => tb ρ G1 fun y G2 => dPairs r ρ G2 fun ps G3 => Qp ((x, y) :: ps) G3) : dPairs ((ta, tb) :: r) ρ G Qp := h
theorem dispEnd {p : Addr} {ps : List (D × D)} {kvs : List (Key × D)} (e : G p = some (.dct [])) (e2 : keysD ps = some kvs) (hl : kvs.length.ble 15 = true) (h : Q (.ref p) (updG G p (.dct (mergeD [] kvs)))) : dispK Q p ps G := by
  refine ⟨e, ?_⟩
  rw [e2]
  exact ⟨Nat.le_of_ble_eq_true hl, h⟩
end
theorem lcP {α : Type} (xs : List α) (g : α → D) (P : D → Prop) {wi : DTI} {ct : CT} {te : DTE} {ρ : DSt} {vs : List Nat} {G : GH} {Q : DK} (hw : ∀ P : List D → (GH → Prop) → GH → Prop, (∀ ok G1, (∀ G, ok G) → Grow G G1 → P (xs.map g) ok G1) → wi ρ G P)
    (hl : xs.length ≤ sizeLine) (hf : ∀ x ∈ xs, ∃ ρ2, bindC ct (g x) (wipeD ρ vs) = some ρ2 ∧ ∀ (G : GH) (K : DK), (∀ y G', P y → Grow G G' → K y G') → te ρ2 G K)
    (hq : ∀ l G', (∀ y ∈ l, P y) → l.length = xs.length → Grow G G' → Q (.lst l) G') : dLc wi ct dYes te vs ρ G (frzK Q) := by
  unfold dLc
  refine hw _ ?_
  intro ok G1 hok g1 p hp
  refine dLcGo_of (I := fun rest acc G' => ∃ rs, rest = rs.map g ∧ acc.length + rs.length = xs.length ∧ (∀ y ∈ acc, P y) ∧ (∀ x ∈ rs, x ∈ xs) ∧ Grow G1 G' ∧ G' p = some (.lst acc)) ?_ ?_ _ [] _ ⟨xs, rfl, by simp, (fun y hy => by cases hy), fun _ h => h, Grow.upd hp, updG_same⟩
  · rintro acc G' ⟨rs, e0, e, ha, -, gg, ep⟩
    cases rs with
    | cons => cases e0
    | nil => exact ⟨hok _, frzR ep (hq _ _ ha (by simpa using e) (g1.trans (Grow.drop hp gg)))⟩
  · rintro x rest acc G' ⟨rs, e0, e, ha, m, gg, ep⟩
    cases rs with
    | nil => cases e0
    | cons r rs =>
      injection e0 with e1 e2
      subst e1 e2
      obtain ⟨ρ2, e2, k⟩ := hf r (m r (List.mem_cons_self ..))
      refine ⟨hok _, ρ2, e2, fun K hK => k G' K fun y G4 hy g4 => ?_⟩
      rw [List.length_cons] at e
      refine hK _ G4 (g4 _ _ ep) (by omega) ⟨rs, rfl, by rw [List.length_append, List.length_singleton]; omega, fun z hz => ?_, fun y hy => m y (List.mem_cons_of_mem _ hy), Grow.upd2 hp (gg.trans g4), updG_same⟩
      rcases List.mem_append.mp hz with q | q
      · exact ha z q
      · rw [List.mem_singleton] at q; subst q; exact hy
theorem intsD_all : ∀ {l : List D}, (∀ y ∈ l, ∃ i : Int, y = .int i) → ∃ ns, intsD l = some ns ∧ ns.length = l.length
  | [], _ => ⟨[], by simp [intsD], rfl⟩
  | d :: l, h => by
    obtain ⟨i, rfl⟩ := h d (List.mem_cons_self ..)
    obtain ⟨ns, e, hl⟩ := intsD_all fun y hy => h y (List.mem_cons_of_mem _ hy)
    exact ⟨i :: ns, by simp [intsD, e], by simp [hl]⟩
end Dl

namespace Dl
open PySem L2
theorem seqC {t u : DTS} {E : DEnds} {ρ : DSt} {G : GH} (P : DSt → GH → Prop) (h1 : ∀ K : DSt → GH → Prop, (∀ ρ G, P ρ G → K ρ G) → t { E with nx := K } ρ G) (h2 : ∀ ρ G, P ρ G → u E ρ G) : dSeq t u E ρ G := h1 _ h2
theorem ifDT {A B p : Prop} [Decidable p] (h : p) (a : A) : if (decide p) = true then A else B := by rw [if_pos (decide_eq_true h)]; exact a
theorem ifDF {A B p : Prop} [Decidable p] (h : ¬ p) (b : B) : if (decide p) = true then A else B := by rw [if_neg (by simpa using h)]; exact b
theorem sLst_i {a : Addr} {l : List D} {i : Int} {j : Nat} {d : D} {G : GH} {Q : GH → Prop} (e : G a = some (.lst l)) (e2 : ixN l.length i = some j) (h : Q (updG G a (.lst (l.set j d)))) : sLst (.ref a) (.int i) d G Q := by
  refine lstP_i e ?_
  dsimp only
  rw [e2]
  exact h
theorem andT {A B : Prop} {p : Prop} [Decidable p] (h : p) (a : A) : (match D.bl (decide p) with
  | .bl true => A
  | .bl false => B
  | _ => False) := by rw [decide_eq_true h]; exact a
def andVK (tb : DTE) (ρ : DSt) (Q : DK) : DK := fun x G1 => match x with
  | .bl true => tb ρ G1 Q
  | .bl false => Q (.bl false) G1
  | _ => False
theorem iAndVK {ta tb : DTE} {ρ : DSt} {G : GH} {Q : DK} (h : ta ρ G (andVK tb ρ Q)) : dAndV ta tb ρ G Q := h
theorem andVT {tb : DTE} {ρ : DSt} {G : GH} {Q : DK} (h : tb ρ G Q) : andVK tb ρ Q (.bl true) G := h
theorem andVF {tb : DTE} {ρ : DSt} {G : GH} {Q : DK} (h : Q (.bl false) G) : andVK tb ρ Q (.bl false) G := h
theorem andVDT {tb : DTE} {ρ : DSt} {G : GH} {Q : DK} {p : Prop} [Decidable p] (h : p) (a : tb ρ G Q) : andVK tb ρ Q (.bl (decide p)) G := by rw [decide_eq_true h]; exact a
theorem rIx_r {a : Addr} {l : List D} {i : Int} {d : D} {G : GH} {Q : DK} (e : G a = some (.lst l)) (e2 : atI l i = some d) (h : Q d G) : rIx (.ref a) (.int i) G Q := rIx_i (ds := l) (by unfold sqOf; dsimp only; rw [e]) e2 h
theorem ifNT {A B : Prop} (h : B) : if (!true) = true then A else B := by rw [if_neg (by decide)]; exact h
theorem ifNF {A B : Prop} (h : A) : if (!false) = true then A else B := by rw [if_pos (by decide)]; exact h
theorem callee0 {P : Program} {w : World} {K : PySem.W.Frag} {mg : Str → Option Value} {base : Heap} {x qual : Str} {params : Arguments} {body : List Stmt} {scope : Scope} {f : Addr} {fd : FuncData} {ps : List Str} {sp : DSp}
    (F : FunD K x qual params body scope [] [] f fd) (hm : mg x = some (.ref f)) (h : ∀ ds G Q E, ¬ sp ds G Q E)
    (b1 : ∀ (kV doc pm : Value) (an : Option Addr) (cdv ct : Value) (us : List Value), us.length = ps.length → bindArgs (PySem.W.fnOf x qual params body scope .none kV doc pm an cdv ct) ⟨us, []⟩ = pure (ps.zip us))
    (b2 : ∀ (kV doc pm : Value) (an : Option Addr) (cdv ct : Value) (us : List Value), us.length = ps.length → bindArgs (PySem.W.fnOf x qual params body scope .none kV doc pm an cdv ct) ⟨[], ps.zip us⟩ = pure (ps.zip us)) : Callee P w K mg base 0 x ps sp :=
  callee_of F hm ⟨fun _ _ _ _ ⟨_, _, _, _, _, _, q, _⟩ => (h _ _ _ _ q).elim, fun _ _ _ _ _ _ _ _ _ _ _ _ _ _ ⟨_, _, _, _, _, _, q, _⟩ => (h _ _ _ _ q).elim⟩ b1 b2
end Dl

namespace Dl
open PySem L2
def pick1 {α : Type} (us its ws : List α) (q : Nat × Nat) : Option α := if q.1 = 0 then us[q.2]? else if q.1 = 1 then its[q.2]? else ws[q.2]?
def pick {α : Type} (src : List (Nat × Nat)) (us its ws : List α) : List α := match src with
  | [] => []
  | q :: r => (pick1 us its ws q).toList ++ pick r us its ws
theorem at_vals {a : List V} {b : List Value} (h : Vals a b) (j : Nat) : Vals a[j]?.toList b[j]?.toList := by
  cases e : a[j]? with
  | none => rw [h.none_of e]; exact .nil
  | some v => obtain ⟨u, e2, r⟩ := h.get e; rw [e2]; exact .cons r .nil
theorem pick_vals {xs dv zs : List V} {us its ws : List Value} (h1 : Vals xs us) (h2 : Vals dv its) (h3 : Vals zs ws) : ∀ {src : List (Nat × Nat)}, Vals (pick src xs dv zs) (pick src us its ws)
  | [] => .nil
  | q :: r => by
    unfold pick
    refine Vals.append ?_ (pick_vals h1 h2 h3)
    unfold pick1
    split
    · exact at_vals h1 _
    · split
      · exact at_vals h2 _
      · exact at_vals h3 _
theorem at_reps {K : PySem.W.Frag} {G : GH} {H : Hp} {a : List V} {b : List D} (h : RepL K G H b a) (j : Nat) : RepL K G H b[j]?.toList a[j]?.toList := by
  cases e : b[j]? with
  | none =>
    have e2 : a[j]? = none := by
      cases e3 : a[j]? with
      | none => rfl
      | some v => obtain ⟨d, e4, _⟩ := h.get' e3; rw [e] at e4; cases e4
    rw [e2]; exact repL_nil
  | some v => obtain ⟨u, e2, r⟩ := h.get e; rw [e2]; exact repL_cons r repL_nil
theorem pick_reps {K : PySem.W.Frag} {G : GH} {H : Hp} {xs dv zs : List V} {us its ws : List D} (h1 : RepL K G H us xs) (h2 : RepL K G H its dv) (h3 : RepL K G H ws zs) : ∀ {src : List (Nat × Nat)}, RepL K G H (pick src us its ws) (pick src xs dv zs)
  | [] => repL_nil
  | q :: r => by
    unfold pick
    refine RepL.append ?_ (pick_reps h1 h2 h3)
    unfold pick1
    split
    · exact at_reps h1 _
    · split
      · exact at_reps h2 _
      · exact at_reps h3 _
structure CalleeG (P : Program) (w : World) (K : PySem.W.Frag) (mg : Str → Option Value) (base : Heap) (k : Nat) (x : Str) (n : Nat) (ks : List Str) (src : List (Nat × Nat)) (dv : List D) (sp : DSp) : Prop where
  ex : ∃ f fd ps, DFn P w K mg base k f fd ps sp ∧ mg x = some (.ref f) ∧ PySem.W.keepIn K (.ref f) = true ∧ ∃ (its : List Value) (dvs : List V), Vals dvs its ∧ (∀ G H, RepL K G H dv dvs) ∧
    ∀ (s : Shared) (us ws : List Value), K.In s.heap → us.length = n → ws.length = ks.length → BindsTo s fd ⟨us, ks.zip ws⟩ (ps.zip (pick src us its ws))
theorem CalleeG.up {P : Program} {w : World} {K : PySem.W.Frag} {mg : Str → Option Value} {base : Heap} {j k n : Nat} {x : Str} {ks : List Str} {src : List (Nat × Nat)} {dv : List D} {sp : DSp} (C : CalleeG P w K mg base j x n ks src dv sp) (h : j ≤ k) : CalleeG P w K mg base k x n ks src dv sp := by
  obtain ⟨f, fd, ps, F, a⟩ := C.ex
  exact ⟨f, fd, ps, F.up h, a⟩
@[simp] def dCallG (sp : DSp) (n m : Nat) (src : List (Nat × Nat)) (dv : List D) (ta tk : DTA) : DTE := fun ρ G Q => ta ρ G fun ds G1 => tk ρ G1 fun es G2 => ds.length = n ∧ es.length = m ∧ sp (pick src ds dv es) G2 Q noX
section
variable {X : Cx} {k n : Nat} {x : Str} {ks : List Str} {src : List (Nat × Nat)} {dv : List D} {sp : DSp} {p pos : Pos} {e : Expr} {es : List Expr} {ta tk : DTA} {kws : List Keyword}
theorem dcg_run {f : Addr} {fd : FuncData} {ps : List Str} {its : List Value} {dvs : List V} (F : DFn X.prog X.w X.K X.mg X.base k f fd ps sp) (hr : Room k X.A) (hgd : X.A.guards = some []) (hv : Vals dvs its) (hd : ∀ G H, RepL X.K G H dv dvs)
    (hb : ∀ (s : Shared) (us ws : List Value), X.K.In s.heap → us.length = n → ws.length = ks.length → BindsTo s fd ⟨us, ks.zip ws⟩ (ps.zip (pick src us its ws))) {pins : List (Addr × Obj)} {σ : St} {H : Hp} {s : Shared} {Q : VK} {us ws : List Value} {vs zs : List V}
    (I : Inv X pins σ H s) (r : Vals vs us) (rz : Vals zs ws) (l1 : vs.length = n) (l2 : zs.length = ks.length) (h : toSp X.K sp (pick src vs dvs zs) H Q E0) : wpAny (model X.prog X.w) X.A (call (.ref f) us (ks.zip ws)) (EP X pins σ Q) X.xe s := by
  refine wpAny_call (codeAny_mono (F.go X.A X.stack s H ⟨us, ks.zip ws⟩ _ _ Q E0 hr hgd I.env0 (hb s us ws I.kIn (r.length.symm.trans l1) (rz.length.symm.trans l2)) (pick_vals r hv rz) h) ?_)
  intro res s2 hq
  match res, hq with
  | .error er, hq => exact hq.elim
  | .ok (.ret u), hq => exact I.after hq
theorem dcg0 {m : Nat} (C : CalleeG X.prog X.w X.K X.mg X.base k x n ks src dv sp) (hr : Room k X.A) (hgd : X.A.guards = some []) (hg : Gl X x) (hkw : DKw X kws tk)
    (hall : (backToKw pos (keywordEach kws X.env)).all (·.1.isSome) = true := by rfl) (hks : (backToKw pos (keywordEach kws X.env)).filterMap (·.1) = ks := by rfl)
    (hdb : (x == ("__debug__" : Str)) = false := by decide) (hpl : ((backTo pos (starEach [] X.env)).any (·.1) || (backToKw pos (keywordEach kws X.env)).any (·.1.isNone)) = false := by rfl) (hl : ks.length = m := by rfl) : DE X (.Call (.Name x p) [] kws pos) (dCallG sp n m src dv dNil tk) := by
  subst hl
  obtain ⟨f, fd, ps, F, hm, hk, its, dvs, hv, hd, hb⟩ := C.ex
  refine ⟨fun pins s σ H Q I ⟨ρ, G, q, r, h, kk⟩ => ?_⟩
  refine wpAny_Call_Name_kw (ld_glob I hg hm ?_ hdb)
  refine PySem.W.callWith_KW0 (h₀ := X.base) I.ok.mod.kin hk hall ?_ hpl
  refine thn (hkw.run pos pins s σ H (fun zs H2 => ([] : List V).length = n ∧ zs.length = ks.length ∧ toSp X.K sp (pick src [] dvs zs) H2 Q E0) I ⟨ρ, G, _, r, h, fun zs es H2 G2 e2 r2 v2 ⟨l1, l2, h2⟩ => ⟨l1, by rw [v2.length]; exact l2, ?_⟩⟩) ?_
  · exact sp_at r2 (pick_reps repL_nil (hd G2 H2) v2) h2 fun v d H' G' e3 r3 v3 h3 => kk v d H' G' (e2.trans e3) r3 v3 h3
  · rintro ws s2 ⟨zs, H2, I2, rz, l1, l2, q2⟩
    refine ⟨I2.kIn, ?_⟩
    rw [hks]
    exact dcg_run F hr hgd hv hd hb I2 .nil rz l1 l2 q2
end
section
variable {P : Program} {w : World} {K : PySem.W.Frag} {mg : Str → Option Value} {base : Heap} {k n : Nat} {x qual : Str} {params : Arguments} {body : List Stmt} {scope : Scope} {f : Addr} {fd : FuncData} {ps ks : List Str} {src : List (Nat × Nat)} {sp : DSp}
theorem calleeG_of (F : FunD K x qual params body scope [] [] f fd) (hm : mg x = some (.ref f)) (D : DFn P w K mg base k f fd ps sp)
    (b : ∀ (kV doc pm : Value) (an : Option Addr) (cdv ct : Value) (us ws : List Value), us.length = n → ws.length = ks.length → bindArgs (PySem.W.fnOf x qual params body scope .none kV doc pm an cdv ct) ⟨us, ks.zip ws⟩ = pure (ps.zip (pick src us [] ws))) : CalleeG P w K mg base k x n ks src [] sp := by
  refine ⟨f, fd, ps, D, hm, F.kp, [], [], .nil, fun _ _ => repL_nil, ?_⟩
  intro s us ws _ h1 h2
  obtain ⟨oc, od, dV, kV, doc, pm, an, cdv, ct, osl, rfl, lk, hcd, hD, hK⟩ := F.ex
  rcases hD with ⟨_, rfl⟩ | ⟨e, _⟩
  · exact .of_eq (b kV doc pm an cdv ct us ws h1 h2)
  · exact absurd rfl e
end
end Dl

namespace Dl
open PySem L2 PyProof.Rows LamX

structure XCalleeG (P : Program) (w : World) (K : PySem.W.Frag) (mg : Str → Option Value) (base : Heap) (k : Nat) (x : Str) (n : Nat) (ks : List Str) (src : List (Nat × Nat)) (dv : List D) (sp : DSp) : Prop where
  ex : ∃ f fd ps, XFn P w K mg base k f fd ps sp ∧ mg x = some (.ref f) ∧ PySem.W.keepIn K (.ref f) = true ∧ ∃ (its : List Value) (dvs : List V), Vals dvs its ∧ (∀ G H, RepL K G H dv dvs) ∧
    ∀ (s : Shared) (us ws : List Value), K.In s.heap → us.length = n → ws.length = ks.length → BindsTo s fd ⟨us, ks.zip ws⟩ (ps.zip (pick src us its ws))
section
variable {X : Cx} {W : WX} {k n : Nat} {x : Str} {ks : List Str} {src : List (Nat × Nat)} {dv : List D} {sp : DSp} {p pos : Pos} {e : Expr} {es : List Expr} {ta tk : DTA} {kws : List Keyword}
end
section
variable {P : Program} {w : World} {K : PySem.W.Frag} {mg : Str → Option Value} {base : Heap} {k n : Nat} {x qual : Str} {params : Arguments} {body : List Stmt} {scope : Scope} {f : Addr} {fd : FuncData} {ps ks : List Str} {src : List (Nat × Nat)} {sp sp' : DSp}
theorem xcallee_of (F : FunD K x qual params body scope [] [] f fd) (hm : mg x = some (.ref f)) (D : XFn P w K mg base k f fd ps sp)
    (b1 : ∀ (kV doc pm : Value) (an : Option Addr) (cdv ct : Value) (us : List Value), us.length = ps.length → bindArgs (PySem.W.fnOf x qual params body scope .none kV doc pm an cdv ct) ⟨us, []⟩ = pure (ps.zip us))
    (b2 : ∀ (kV doc pm : Value) (an : Option Addr) (cdv ct : Value) (us : List Value), us.length = ps.length → bindArgs (PySem.W.fnOf x qual params body scope .none kV doc pm an cdv ct) ⟨[], ps.zip us⟩ = pure (ps.zip us)) : XCallee P w K mg base k x ps sp := by
  refine ⟨f, fd, D, hm, F.kp, F.bindsN b1, ⟨?_, fun r => r, fun r => r⟩⟩
  intro s ws hl
  obtain ⟨oc, od, dV, kV, doc, pm, an, cdv, ct, osl, rfl, lk, hcd, hD, hK⟩ := F.ex
  rcases hD with ⟨_, rfl⟩ | ⟨e, _⟩
  · exact .of_eq (b2 kV doc pm an cdv ct ws hl)
  · exact absurd rfl e
theorem XFn.calm (F : XFn P w K mg base k f fd ps sp) (h : ∀ ds G Q E, sp' ds G Q E → sp ds G Q noX) : DFn P w K mg base k f fd ps sp' := by
  refine ⟨fun xs H Q E hs => ?_, fun A out st H ar us xs Q E hr hg he hb hv hs => ?_⟩
  · obtain ⟨ds, G, q, e, rl, g, h1, _⟩ := hs
    exact F.arity xs H (fun _ _ => True) (fun _ _ _ => True) ⟨ds, G, q, noX, rl, g, h _ _ _ _ h1, fun _ _ _ _ _ _ _ _ => trivial, fun _ _ _ _ _ _ _ _ _ => trivial⟩
  · obtain ⟨ds, G, q, e, rl, g, h1, kq, ke⟩ := hs
    refine codeAny_mono (F.go A out st H ar us xs Q (fun _ _ _ => False) hr hg he hb hv ⟨ds, G, q, noX, rl, g, h _ _ _ _ h1, kq, fun _ _ _ _ _ _ _ _ z => z.elim⟩) fun r s' hq => ?_
    cases r with
    | error er =>
      obtain ⟨_, _, _, _, _, _, _, _, _, _, _, _, z⟩ := (show L2.CX P w out H st (fun _ _ _ => False) er s' from hq)
      exact z.elim
    | ok fl => cases fl <;> exact hq
theorem XCallee.calm (C : XCallee P w K mg base k x ps sp) (h : ∀ ds G Q E, sp' ds G Q E → sp ds G Q noX) : Callee P w K mg base k x ps sp' := by
  obtain ⟨f, fd, F, a⟩ := C.ex
  exact ⟨f, fd, XFn.calm F h, a⟩
end
section
variable {X : Cx} {W : WX} {k : Nat} {x : Str} {ps : List Str} {sp : DSp} {p pos : Pos} {ta : DTA} {kws : List Keyword}
end

section
variable {P : Program} {w : World} {K : PySem.W.Frag} {mg : Str → Option Value} {base : Heap} {x qual : Str} {params : Arguments} {body : List Stmt} {scope : Scope} {dvs : List V} {kws : List (Str × V)} {f c : Addr} {fd : FuncData} {N ps : List Str} {k : Nat} {sp : DSp}
theorem gfn_ofC {CX : CXT} {sp : Sp} (F : FunD K x qual params body scope dvs kws f fd) (S : FnScope N ps scope) (len : ∀ xs H Q E, sp xs H Q E → xs.length = ps.length)
    (hbody : ∀ (cdv : Value) (A : Around) (out : List Env) (st : Shared) (H : Hp) (xs : List V) (Q : VK) (E : XK), fd.code = cdv → Room k (A.deeper (PyProof.Rows.envOfC qual scope st.heap.objs.size f cdv)) → (A.deeper (PyProof.Rows.envOfC qual scope st.heap.objs.size f cdv)).guards = some [] →
      sp xs H Q E → ∃ t, PSs (cxOf CX P w K mg base N qual scope f cdv A out st H E) body t ∧ t { nx := fun _ H' => Q .non H', rt := Q } (L2.start N xs) H) : GFn P w K mg base CX (k + 1) f fd ps sp := by
  obtain ⟨oc, od, dV, kV, doc, pm, an, cdv, ct, osl, hfd, lk, hcd, _, _⟩ := F.ex
  subst hfd
  constructor
  · exact len
  intro A out st H ar us xs Q E hr hgd e0 hb rl hsp
  have kin : K.In st.heap := PySem.W.Frag.In.keeps e0.mod.kin (fun b o e => (e0.bs b o e).1)
  have nl : st.heap.NoLimit := Heap.NoLimit.keeps e0.mod.nolimit (fun b o e => (e0.bs b o e).1)
  have kinds : ∀ y ∈ ps.zip us, scope.names.lookup y.1 = some .local ∨ (scope.names.lookup y.1 = some .cell ∧ ((cellsFrom (st.heap.objs.size + 1) scope.names []).lookup y.1).isSome = true) := by
    rintro ⟨n, v⟩ hy
    cases S.par n (List.of_mem_zip hy).1 with
    | inl q => exact .inl q
    | inr q => exact .inr ⟨q, PySem.W.cellsFrom_some _ _ _ (.inl q)⟩
  refine PySem.codeAny_call_function hr.depth (kin _ _ lk) rfl S.co S.gen rfl (PySem.W.codeRec_of kin hcd) ?_
  refine hb _ _ _ _ ?_
  refine wpAny_newFunctionEnv_cells S.kind kinds ?_
  intro env he s1 ic
  subst he
  refine ⟨nl.keeps ic.toInCall.keep, PySem.codeAny_func ?_⟩
  have gd : (A.deeper (PyProof.Rows.envOfC qual scope st.heap.objs.size f cdv)).guards = some [] := hgd
  obtain ⟨t, ht, hq⟩ := hbody cdv A out st H xs Q E rfl (hr.deeper _) gd hsp
  have inv := inv_start (CX := CX) (E := E) S hr.hd e0 (len _ _ _ _ hsp) rl ic
  refine wpAny_mono (ht.run [] s1 _ H _ inv hq) ?_ (fun _ _ z => z)
  intro fl s2 hs
  cases fl with
  | ret u => obtain ⟨v, σ2, H2, J, rv, q⟩ := hs; exact ⟨v, H2, J.os, J.bare, J.base, J.hok, rv, q⟩
  | next => obtain ⟨σ2, H2, J, q⟩ := hs; exact ⟨V.non, H2, J.os, J.bare, J.base, J.hok, rfl, q⟩
  | brk => obtain ⟨_, _, _, q⟩ := hs; exact q.elim
  | cont => obtain ⟨_, _, _, q⟩ := hs; exact q.elim
theorem dfn_ofL {β : Type} {t : β → DTS} (F : FunD K x qual params body scope dvs kws f fd) (hc : fd.code = .ref c) (S : FnScope N ps scope) (len : ∀ ds G Q E, sp ds G Q E → ds.length = ps.length)
    (hbody : ∀ (A : Around) (out : List Env) (st : Shared) (H : Hp) (E : XK), Room k (A.deeper (PyProof.Rows.envOfC qual scope st.heap.objs.size f (.ref c))) → (A.deeper (PyProof.Rows.envOfC qual scope st.heap.objs.size f (.ref c))).guards = some [] →
      ∃ b : β, DSs (cxOf CX0 P w K mg base N qual scope f (.ref c) A out st H E).nox body (t b))
    (ok : ∀ b ds G Q E, sp ds G Q E → t b { nx := fun _ G' => Q .non G', rt := Q } (startD N.length ds) G) : DFn P w K mg base (k + 1) f fd ps sp := by
  refine gfn_ofC F S (fun vs H Q E h => ?_) fun cdv A outer s H vs Q E hcd hr hg h => ?_
  · obtain ⟨ds, G, q, e, rl, _, h, _⟩ := h
    rw [rl.length]
    exact len _ _ _ _ h
  · rw [hc] at hcd
    subst hcd
    obtain ⟨b, hb⟩ := hbody A outer s H E hr hg
    refine ⟨_, PSs.nox hb, ?_⟩
    obtain ⟨ds, G, q, e, rl, g, h, kq, ke⟩ := h
    refine ⟨startD N.length ds, G, _, start_rel rl g, ok b ds G q e h, ?_, ?_, ?_, ?_⟩
    · exact fun σ' ρ' H' G' e' r' h' => kq .non .non H' G' e' r'.gok (by unfold RepV; rfl) h'
    · exact fun v d H' G' e' g' v' h' => kq v d H' G' e' g' v' h'
    · exact fun _ _ _ _ _ _ z => z.elim
    · exact fun _ _ _ _ _ _ z => z.elim
end
def dHearL (P : Addr) (q : Str) (rH : Act → DTS) (n : Nat) (t : XTE) : DTE := fun ρ G Q => G P = some (.tab q) ∧
  ∀ φ n1 H1, rH ⟨q, φ, n1, H1, fun E' G' Q' => t (fun x _ G2 => E' x G2) ρ G' Q'⟩ { nx := fun _ G' => Q .non G', rt := Q } (some (.fn q φ n1 H1) :: List.replicate (n - 1) none) G
section
variable {X : Cx} {k n : Nat} {x q : Str} {rH : Act → DTS} {p lpos pos : Pos} {c T : Addr} {params : Arguments} {body : Expr} {scope : Scope} {t : XTE}
theorem de_hearL (C : Hearer X.prog X.w X.K X.mg X.base k x rH n) (TB : TabB X.base X.mg c T) (hcode : X.env.code = .ref c) (hq : X.env.qual ++ "<lambda>" = q) (hr : Room (k + 2) X.A) (hgd : X.A.guards = some []) (hg : Gl X x)
    (hdef : defaultsOf params X.env = ([], [])) (LS : LamS X.env.scope scope) (hbind : ∀ (cl : List (Str × Addr)) (pm cv ctv : Value), bindArgs (PySem.W.kla_fn "<lambda>" (X.env.qual ++ "<lambda>") params body scope cl pm cv ctv) ⟨[], []⟩ = pure [])
    (hbody : ∀ (A : Around) (outer : List Env) (s : Shared) (H : Hp) (E : XK) (f c' : Addr), Room k (A.deeper (lamEnv X scope s.heap.objs.size f c')) → (A.deeper (lamEnv X scope s.heap.objs.size f c')).guards = some [] →
      Takes (lamCx X A outer s H E scope f c') (fun c d _ H' => E c d H') → XE1 (lamCx X A outer s H E scope f c') (fun c d _ H' => E c d H') body t)
    (hdb : (x == ("__debug__" : Str)) = false := by decide) (hst : starEach [.Lambda params body scope lpos] X.env = (false, eval (.Lambda params body scope lpos) X.env) :: starEach [] X.env := by rfl) (hpl : (backTo pos (starEach [] X.env)).any (·.1) = false := by rfl) :
    DE X (.Call (.Name x p) [.Lambda params body scope lpos] [] pos) (dHearL T q rH n t) := by
  subst hq
  refine PE.imp (de_hear (Ls := [⟨_, _, t⟩]) C (fun l hl => ?_) hr hgd hg (de_lam TB hcode hdef LS.free) hdb hst hpl) fun σ H Q ⟨ρ, G, q, r, ⟨gP, h⟩, k⟩ => ⟨ρ, G, q, r, ⟨gP, _, List.mem_singleton.mpr rfl, _, _, rfl, h _⟩, k⟩
  rw [List.mem_singleton] at hl
  subst hl
  exact ⟨params, body, scope, rfl, rfl, LS, hbind, hbody⟩
end
section
variable {P : Program} {w : World} {K : PySem.W.Frag} {mg : Str → Option Value} {base : Heap} {k : Nat} {x a : Str} {pg : Arguments} {bg : List Stmt} {sg : Scope} {g : Addr} {fd : FuncData} {Ng : List Str} {rH : Act → DTS}
theorem hearer_of (F : FunD K x x pg bg sg [] [] g fd) (hm : mg x = some (.ref g)) (S : FnScope Ng [a] sg) (hNg : Ng[0]? = some a) (hva : Vis sg a)
    (hbody : ∀ (cdv : Value) (A : Around) (out : List Env) (st : Shared) (H : Hp) (α : Act), Room (k + 1) (A.deeper (envOfC x sg st.heap.objs.size g cdv)) → (A.deeper (envOfC x sg st.heap.objs.size g cdv)).guards = some [] →
      (∀ (W : WX) (pn : List (Addr × Obj)) (xe : Value → Shared → Prop) (p1 p2 : Pos), Takes ((cxOf CX0 P w K mg base Ng x sg g cdv A out st H E0).tr pn xe) W →
        XE1 ((cxOf CX0 P w K mg base Ng x sg g cdv A out st H E0).tr pn xe) W (.Call (.Name a p1) [] [] p2) (xAct 0 α)) →
      DSs (cxOf CX0 P w K mg base Ng x sg g cdv A out st H E0).nox bg (rH α))
    (b1 : ∀ (kV doc pm : Value) (an : Option Addr) (cdv ct : Value) (us : List Value), us.length = [a].length → bindArgs (PySem.W.fnOf x x pg bg sg .none kV doc pm an cdv ct) ⟨us, []⟩ = pure ([a].zip us))
    (hd : (a == ("__debug__" : Str)) = false := by decide) (hcd : (a == ("__classdict__" : Str)) = false := by decide) : Hearer P w K mg base k x rH Ng.length := by
  have hb := F.bindsN b1
  obtain ⟨oc, od, dV, kV, doc, pm, an, cdv, ct, osl, rfl, lk, hcd2, hD, hK⟩ := F.ex
  exact ⟨g, pg, bg, sg, Ng, a, dV, kV, doc, pm, cdv, ct, oc, an, od, osl, hm, F.kp, lk, hcd2, hb, S, rfl, hNg, hva, hd, hcd, fun A out st H α hr hgd act => hbody cdv A out st H α hr hgd act⟩
end
section
variable {X : Cx} {W : WX}
end
end Dl

namespace Dl
open PySem PySem.Spec PyProof.Rows L2 LamX

def clsObjB (K : PySem.W.Frag) (C : Addr) : Bool := match K.lookup C with
  | some ⟨.type t, _, .cls cd, sl⟩ => decide (t = "type") && (match cd.mro, sl.toList with
    | .ref C' :: bm, [_, _, _, _, some (.builtin n), _] => decide (C' = C) && (decide (n = "ValueError.__new__") && (!cd.hasDel && (cd.hasDict && PySem.HandSPX.refsVE bm)))
    | _, _ => false)
  | _ => false
theorem clsObjB_ok {K : PySem.W.Frag} {C : Addr} (h : clsObjB K C = true) : ∃ nm q N bs bm sn sub ab col dd k0 k1 k2 k3 k5, K.lookup C = some (excClassObj nm q C N bs bm true sn sub ab col dd k0 k1 k2 k3 k5 "ValueError.__new__") ∧ PySem.HandSPX.refsVE bm = true := by
  unfold clsObjB at h
  split at h
  · rename_i t dd cd sl ho
    obtain ⟨h1, h⟩ := Bool.and_eq_true_iff.mp h
    obtain rfl := of_decide_eq_true h1
    split at h
    · rename_i C' bm k0 k1 k2 k3 n k5 hm hs
      simp only [Bool.and_eq_true, decide_eq_true_eq, Bool.not_eq_true'] at h
      obtain ⟨_, rfl, rfl, h3, h4, h5⟩ := h
      obtain ⟨nm, bs, mro, ns, qn, hd, sn, sub, ab, col, del⟩ := cd
      dsimp only at hm h3 h4
      subst hm h3 h4
      have hsl : sl = #[k0, k1, k2, k3, some (.builtin "ValueError.__new__"), k5] := by
        obtain ⟨l⟩ := sl
        simp only at hs
        rw [hs]
      subst hsl
      exact ⟨nm, qn, ns, bs, bm, sn, sub, ab, col, dd, k0, k1, k2, k3, k5, ho, h5⟩
    · cases h
  · cases h
structure XD where
  x : Str
  qual : Str
  params : Arguments
  body : List Stmt
  scope : Scope
  fl : List Str
abbrev FnE : Type := Option (Str × Str × Arguments × FuncBody × Scope × Addr × List Str × Addr)
def iniA (K : PySem.W.Frag) (x : Str) : Addr := He.ma K (He.ga K x) "__init__"
def fnE (K : PySem.W.Frag) (x : Str) : FnE := match K.lookup (iniA K x) with
  | some ⟨_, _, .func fd, _⟩ => some (fd.name, fd.qualname, fd.params, fd.body, fd.scope, fd.globals, fd.closure.map (·.1), fd.builtins)
  | _ => none
def XD.val (d : XD) : FnE := some ("__init__", d.qual, d.params, .stmts d.body, d.scope, mainGlobals, [("__class__" : Str)], builtinsNs)
def inimB (K : PySem.W.Frag) (file : Str) (C f : Addr) (qual : Str) : Bool := match K.lookup f with
  | some ⟨_, _, .func fd, _⟩ => (match fd.closure, fd.code, fd.defaults, fd.kwdefaults with
    | [(_, cc)], .ref c, .none, .none => (match K.lookup cc, K.lookup c with
      | some ⟨_, _, .cell (some (.ref D)), _⟩, some ⟨_, _, .fields vs, _⟩ => PySem.W.codeIn K (.ref c) qual && ((PySem.W.clsIn K D).isSome && (decide (PySem.W.mroIn K C (.ref D) = some true) && (decide (PySem.W.ks_superIn K C D "__init__" = some (some (.builtin veInit))) && (match (vs[2]? : Option Value) with
        | some (Value.str fl _) => (file : Str) == fl
        | _ => false))))
      | _, _ => false)
    | _, _, _, _ => false)
  | _ => false
def xinB (K : PySem.W.Frag) (file : Str) (d : XD) : Bool :=
  clsObjB K (He.ga K d.x) && (decide (PySem.W.findIn K (.ref (He.ga K d.x)) "__setattr__" = some (some (.builtin "object.__setattr__"))) && (decide (PySem.W.subIn K (.ref (He.ga K d.x)) (.type "BaseException") = some true) && (decide (PySem.W.typeIn K (.ref (He.ga K d.x)) = some (.type "type")) &&
  (PySem.W.keepIn K (.ref (He.ga K d.x)) && (decide (PySem.W.findIn K (.ref (He.ga K d.x)) "__init__" = some (some (.ref (iniA K d.x)))) && (decide (PySem.W.typeIn K (.ref (iniA K d.x)) = some (.type "function")) && (decide (PySem.W.subIn K (.ref (He.ga K d.x)) (.type "ValueError") = some true) &&
  (decide (PySem.W.nsIn K mainGlobals "super" = some none) && (decide (PySem.W.nsIn K cStatics "thirdparty.any" = some none) && (decide (PySem.W.nsIn K mainGlobals d.x = some (some (.ref (He.ga K d.x)))) && (d.fl.all (fun f => decide (PySem.W.findIn K (.ref (He.ga K d.x)) f = some none)) && inimB K file (He.ga K d.x) (iniA K d.x) d.qual)))))))))))
structure XinOk (K : PySem.W.Frag) (file : Str) (d : XD) (f c cc D : Addr) : Prop where
  s : ExcS K file (He.ga K d.x) f c cc D
  at_ : PySem.W.nsIn K mainGlobals d.x = some (some (.ref (He.ga K d.x)))
  no : ∀ g ∈ d.fl, PySem.W.findIn K (.ref (He.ga K d.x)) g = some none
  fn : ∃ (oc doc pm ct : Value) (an od : Option Addr) (osl : Array (Option Value)), K.lookup f = some ⟨oc, od, .func (PySem.W.fnX "__init__" d.qual d.params d.body d.scope [(("__class__" : Str), cc)] .none .none doc pm an (.ref c) ct), osl⟩
  code : PySem.W.codeIn K (.ref c) d.qual = true
theorem xinB_ok {K : PySem.W.Frag} {file : Str} {d : XD} (h : xinB K file d = true) (e : fnE K d.x = d.val) : ∃ f c cc D, XinOk K file d f c cc D := by
  unfold xinB at h
  simp only [Bool.and_eq_true, decide_eq_true_eq, List.all_eq_true] at h
  obtain ⟨a1, a2, a3, a4, a5, a6, a7, a8, a9, a10, a11, a12, a13⟩ := h
  unfold inimB at a13
  unfold fnE at e
  split at a13
  · rename_i oc od fd osl lf
    rw [lf] at e
    split at a13
    · rename_i nm cc c hcl hco hdf hkw
      split at a13
      · rename_i ca cb D csl da db vs dsl lcc lc
        simp only [Bool.and_eq_true, decide_eq_true_eq] at a13
        obtain ⟨b1, b2, b3, b4, b5⟩ := a13
        split at b5
        · rename_i fl tf hvs
          obtain ⟨n1, n2, n3, n4, n5, n6, n7, n8, n9, n10, n11, n12, n13, n14, n15⟩ := fd
          dsimp only at hcl hco hdf hkw
          subst hcl hco hdf hkw
          unfold XD.val at e
          simp only [Option.some.injEq, Prod.mk.injEq, List.map_cons, List.map_nil, List.cons.injEq, and_true] at e
          obtain ⟨e1, e2, e3, e4, e5, e6, e7, e8⟩ := e
          subst e1 e2 e3 e4 e5 e6 e7 e8
          refine ⟨iniA K d.x, c, cc, D, ⟨⟨clsObjB_ok a1, a2, a3, a4, a5⟩, a6, a7, Option.isSome_iff_exists.mp b2, ⟨_, _, _, lcc⟩, ⟨_, _, _, _, _, _, lc, hvs, b5⟩, b3, b4, a8, a9, a10⟩, a11, a12, ⟨_, _, _, _, _, _, _, lf⟩, b1⟩
        · cases b5
      · cases a13
    · cases a13
  · cases a13
section
open NdefX
variable {P : Program} {w : World} {K : PySem.W.Frag} {mg : Str → Option Value} {d : XD} {x1 x2 f1 f2 : Str} {p0 p1 p2 p3 p4 q1 q2 r1 r2 r3 r4 r5 r6 r7 r8 : Pos} {ar : Arg}
theorem xclass2 (h : xinB K P.main.file d = true) (e : fnE K d.x = d.val) (hmg : mg d.x = some (.ref (He.ga K d.x))) (hfl : d.fl = [f1, f2])
    (hbody : d.body = [stSup p0 p1 p2 p3 p4 [.Name x1 q1, .Name x2 q2], stKeep x1 f1 r1 r2 r3 r4, stKeep x2 f2 r5 r6 r7 r8]) (NS : NScope (nI [x1, x2]) [("self" : Str), x1, x2] ["__class__"] d.scope) (hp : (d.params.posonlyargs ++ d.params.args).head? = some ar) (har : ar.arg = ("self" : Str))
    (hks : d.scope.names.lookup ("super" : Str) = some .globalImplicit) (htop : (P.main.scope.names.lookup ("super" : Str)).isSome = false)
    (d1 : (x1 == ("__debug__" : Str)) = false) (d2 : (x2 == ("__debug__" : Str)) = false) (e1 : (x1 == ("__classdict__" : Str)) = false) (e2 : (x2 == ("__classdict__" : Str)) = false)
    (hb : ∀ (cl : List (Str × Addr)) (doc pm cdv ct : Value) (an : Option Addr) (us : List Value), us.length = 3 → bindArgs (PySem.W.fnX "__init__" d.qual d.params d.body d.scope cl .none .none doc pm an cdv ct) ⟨us, []⟩ = pure ([("self" : Str), x1, x2].zip us))
    {pl : Env → Sem Bool} (hev : ∀ env, eval (.Call (.Attribute (.Call (.Name "super" p0) [] [] p1) "__init__" p2) [.Name x1 q1, .Name x2 q2] [] p3) env = (do
      let ov ← attributeBase (.Call (.Name "super" p0) [] [] p1) "__init__" env (eval (.Call (.Name "super" p0) [] [] p1) env)
      standAt p2.atName
      let (g, first) ← holding [ov] (getMethod ov "__init__" (pl env))
      callWith p3 g first (backTo p3 (starEach [.Name x1 q1, .Name x2 q2] env)) []))
    (hsw : ∀ env, swapsWith (.Call (.Attribute (.Call (.Name "super" p0) [] [] p1) "__init__" p2) [.Name x1 q1, .Name x2 q2] [] p3) none p4.line env = pure false) : XClass P w K mg d.x [f1, f2] := by
  obtain ⟨f, c, cc, D, X⟩ := xinB_ok h e
  obtain ⟨oc, doc, pm, ct, an, od, osl, lf⟩ := X.fn
  refine ⟨X.s.ox, by show 2 ≤ 100; decide, hmg, fun base => ⟨f, _, [("self" : Str), x1, x2], X.s.ini, X.s.fnT, ?_, Binds.all fun us hl => hb [(("__class__" : Str), cc)] doc pm (.ref c) ct an us hl⟩⟩
  rw [hbody] at lf ⊢
  exact xinit2 X.s lf X.code NS hp har hks htop (X.no f1 (by rw [hfl]; simp)) (X.no f2 (by rw [hfl]; simp)) d1 d2 e1 e2 hev hsw
end

structure PDef where
  c : Str
  f : Str
  params : Arguments
  body : List Stmt
  scope : Scope
def atA (K : PySem.W.Frag) (c f : Str) : Addr := He.ma K (He.ga K c) f
def getA (K : PySem.W.Frag) (c f : Str) : Addr := match PySem.W.recIn K (atA K c f) "property" with
  | some (.ref g :: _) => g
  | _ => 0
def fnP (K : PySem.W.Frag) (c f : Str) : FnE := match K.lookup (getA K c f) with
  | some ⟨_, _, .func fd, _⟩ => some (fd.name, fd.qualname, fd.params, fd.body, fd.scope, fd.globals, fd.closure.map (·.1), fd.builtins)
  | _ => none
def PDef.qual (d : PDef) : Str := d.c ++ "." ++ d.f
def PDef.val (d : PDef) : FnE := some (d.f, d.qual, d.params, .stmts d.body, d.scope, mainGlobals, [], builtinsNs)
abbrev AlE : Type := He.AlD × Bool × List FnE × List FnE
def obsE (fx : List Fx) (fn : List He.DefD) (tf : List He.Defn) (ex : PySem.W.Frag → Bool) (xs : List XD) (pd : List PDef) (g : Addr → Option Obj) (K : PySem.W.Frag) : AlE := (obsX fx fn K, (ex K && (xs.all fun _ => true) && He.tabsB g tf K && decide ((tf.map fun p => (He.cT K p).2).Nodup)), (xs.map fun d => fnE K d.x), pd.map fun d => fnP K d.c d.f)
def valE (fn : List He.DefD) (xs : List XD) (pd : List PDef) : AlE := (He.valD fn, true, xs.map XD.val, pd.map PDef.val)
structure SaysE (fx : List Fx) (fn : List He.DefD) (tf : List He.Defn) (ex : PySem.W.Frag → Bool) (xs : List XD) (pd : List PDef) (h : Heap) (K : PySem.W.Frag) : Prop where
  x : SaysX fx fn K
  more : ex K = true
  ini : ∀ d ∈ xs, fnE K d.x = d.val
  get : ∀ d ∈ pd, fnP K d.c d.f = d.val
  hd : ∀ p ∈ tf, PySem.W.codeHdIn K (He.cT K p).1 (He.cT K p).2 = true
  out : ∀ p ∈ tf, K.lookup (He.cT K p).2 = none
  empty : ∀ p ∈ tf, h.get? (He.cT K p).2 = some { cls := .none, data := .fields #[] }
  nd : (tf.map fun p => (He.cT K p).2).Nodup
theorem saysE_of {fx : List Fx} {fn : List He.DefD} {tf : List He.Defn} {ex : PySem.W.Frag → Bool} {xs : List XD} {pd : List PDef} {h : Heap} {as : List Addr} (e : obsE fx fn tf ex xs pd h.get? (He.frT h.get? as) = valE fn xs pd) : SaysE fx fn tf ex xs pd h (He.frT h.get? as) := by
  have e1 := congrArg (fun z : AlE => z.1) e
  have e2 := congrArg (fun z : AlE => z.2.1) e
  have e3 := congrArg (fun z : AlE => z.2.2.1) e
  have e4 := congrArg (fun z : AlE => z.2.2.2) e
  dsimp only [obsE, valE] at e1 e2 e3 e4
  simp only [Bool.and_eq_true, decide_eq_true_eq] at e2
  obtain ⟨⟨⟨h1, _⟩, h2⟩, h3⟩ := e2
  have key : ∀ p ∈ tf, PySem.W.codeHdIn (He.frT h.get? as) (He.cT (He.frT h.get? as) p).1 (He.cT (He.frT h.get? as) p).2 = true ∧ ∃ o, h.get? (He.cT (He.frT h.get? as) p).2 = some o ∧ He.emptyTab o = true := fun p hp => by
    obtain ⟨h4, h5⟩ := Bool.and_eq_true_iff.mp (List.all_eq_true.mp h2 p hp)
    refine ⟨h4, ?_⟩
    split at h5
    · rename_i o q
      exact ⟨o, q, h5⟩
    · cases h5
  refine ⟨e1, h1, fun d hd => ?_, fun d hd => ?_, fun p hp => (key p hp).1, fun p hp => ?_, fun p hp => ?_, h3⟩
  · have z : ∀ (l : List XD), (l.map fun d => fnE (He.frT h.get? as) d.x) = l.map XD.val → ∀ d ∈ l, fnE (He.frT h.get? as) d.x = d.val := by
      intro l
      induction l with
      | nil => intro _ d hd; cases hd
      | cons y ys ih =>
        intro q d hd
        simp only [List.map_cons, List.cons.injEq] at q
        rcases List.mem_cons.mp hd with rfl | hd
        · exact q.1
        · exact ih q.2 d hd
    exact z xs e3 d hd
  · have z : ∀ (l : List PDef), (l.map fun d => fnP (He.frT h.get? as) d.c d.f) = l.map PDef.val → ∀ d ∈ l, fnP (He.frT h.get? as) d.c d.f = d.val := by
      intro l
      induction l with
      | nil => intro _ d hd; cases hd
      | cons y ys ih =>
        intro q d hd
        simp only [List.map_cons, List.cons.injEq] at q
        rcases List.mem_cons.mp hd with rfl | hd
        · exact q.1
        · exact ih q.2 d hd
    exact z pd e4 d hd
  · obtain ⟨_, o, q, z⟩ := key p hp
    exact He.frT_none q z
  · obtain ⟨_, o, q, z⟩ := key p hp
    rw [q, He.emptyTab_eq z]
def obsEG (n : Nat) (fx : List Fx) (fn : List He.DefD) (tf : List He.Defn) (ex : PySem.W.Frag → Bool) (xs : List XD) (pd : List PDef) (g : Addr → Option Obj) : AlE := obsE fx fn tf ex xs pd g (He.frT g (cStatics :: He.asD g n))
def hookE (n : Nat) (fx : List Fx) (fn : List He.DefD) (tf : List He.Defn) (ex : PySem.W.Frag → Bool) (xs : List XD) (pd : List PDef) : PySem.W.Hook where
  α := AlE
  obs := fun s => obsEG n fx fn tf ex xs pd s.heap.get?
  val := fun _ => valE fn xs pd
  says := fun _ h => ∃ K : PySem.W.Frag, K.In h ∧ SaysE fx fn tf ex xs pd h K
  of := fun _ _ e => ⟨_, He.frT_in, saysE_of e⟩
  keeps := fun _ _ _ ⟨K, hK, c⟩ k => ⟨K, PySem.W.Frag.In.keeps hK k, ⟨c.x, c.more, c.ini, c.get, c.hd, c.out, fun p hp => k _ _ (c.empty p hp), c.nd⟩⟩
theorem obsEG_eq {n : Nat} {fx : List Fx} {fn : List He.DefD} {tf : List He.Defn} {ex : PySem.W.Frag → Bool} {xs : List XD} {pd : List PDef} {g : Addr → Option Obj} {s : Shared} (h : ∀ a, g a = s.heap.get? a) : obsEG n fx fn tf ex xs pd g = (hookE n fx fn tf ex xs pd).obs s := by
  have e : g = s.heap.get? := funext h
  rw [e] <;> rfl

def tabG (T : List (Addr × Str)) : GH := fun b => (T.lookup b).map DO.tab
theorem look_cons (u : Addr) (v : Str) (r : List (Addr × Str)) (b : Addr) : ((u, v) :: r).lookup b = if b = u then some v else r.lookup b := by
  rw [List.lookup_cons]
  by_cases h : b = u
  · subst h; simp
  · have e : (b == u) = false := by simpa using h
    rw [e, if_neg h]
theorem look_nd {T : List (Addr × Str)} (nd : (T.map (·.1)).Nodup) : ∀ p ∈ T, T.lookup p.1 = some p.2 := by
  induction T with
  | nil => intro p hp; cases hp
  | cons q r ih =>
    intro p hp
    obtain ⟨u, v⟩ := q
    simp only [List.map_cons, List.nodup_cons] at nd
    rw [look_cons]
    rcases List.mem_cons.mp hp with rfl | hp
    · rw [if_pos rfl]
    · have ne : p.1 ≠ u := fun z => nd.1 (by rw [← z]; exact List.mem_map_of_mem hp)
      rw [if_neg ne]
      exact ih nd.2 p hp
theorem tabG_at {T : List (Addr × Str)} (nd : (T.map (·.1)).Nodup) {p : Addr × Str} (hp : p ∈ T) : tabG T p.1 = some (.tab p.2) := by
  unfold tabG
  rw [look_nd nd p hp]
  rfl
theorem look_mem {b : Addr} {q : Str} : ∀ {T : List (Addr × Str)}, T.lookup b = some q → (b, q) ∈ T
  | [], h => by cases h
  | (u, v) :: r, h => by
    rw [look_cons] at h
    by_cases e : b = u
    · rw [if_pos e] at h
      cases h
      rw [e]
      exact List.mem_cons_self
    · rw [if_neg e] at h
      exact List.mem_cons_of_mem _ (look_mem h)
theorem law_goT {P : Program} {w : World} {K : PySem.W.Frag} {mg mb : Str → Option Value} {k : Nat} {fa a : Addr} {T : List (Addr × Str)} {cs : List (Addr × Addr)} {fd : FuncData} {x : Str} {sp : DSp} {st : Shared} {vs : List Value} {ns : List Int}
    (kin : K.In st.heap) (gl : st.heap.Ns mainGlobals mg) (bl : st.heap.Ns builtinsNs mb) (bb : ∀ y : Str, y ≠ "__name__" → mb y = bootBuiltins y) (lim : st.heap.NoLimit) (hg : st.gens = #[])
    (hT : ∀ p ∈ T, st.heap.get? p.1 = some { cls := .none, data := .fields #[] }) (nT : ∀ p ∈ T, K.lookup p.1 = none) (hcs : ∀ p ∈ cs, p.2 ∈ T.map (·.1)) (hct : ∀ p ∈ T, ∃ c, (c, p.1) ∈ cs) (C : ∀ p ∈ cs, PySem.W.CodeHd st.heap p.1 p.2)
    (hbm : ∃ (bm : Addr) (ob : Obj), mg "__builtins__" = some (.ref bm) ∧ bm ≠ builtinsNs ∧ st.heap.get? bm = some ob ∧ ob.cls = .type "module" ∧ ob.dict = some builtinsNs ∧ ob.data = .plain)
    (ha : st.heap.get? a = some { cls := .type "list", data := .seq vs.toArray }) (hi : IntsAre vs ns) (hl : ns.length ≤ sizeLine) (hr : Room k callerA) (hgd : callerA.guards = some [])
    (F : ∀ base : Heap, K.In base → base.Ns mainGlobals mg → (∀ p ∈ cs, TabB base mg p.1 p.2) → DFn P w K mg base k fa fd [x] sp) (bind : ∀ (s : Shared) (u : Value), BindsTo s fd ⟨[u], []⟩ [(x, u)])
    (hsp : sp [.scr ns] (tabG T) (fun d _ => d = .bl true) noX) :
    codeAny (model P w) callerA (.call (.ref fa) ⟨[.ref a], []⟩) (fun r s' => r = .ok (.ret (.bool true)) ∧ OldK st.heap s'.heap ∧ s'.os = st.os ∧ AllBare s'.gens) st := by
  have rv : Vals (ns.map V.int) vs := vals_of_ints hi
  have ln : vs.length = ns.length := hi.length
  let ob : Obj := { cls := .type "list", data := .seq vs.toArray }
  let fz : HO := .frz ob (.lst (ns.map V.int))
  have isT : ∀ {b : Addr} {q : Str}, T.lookup b = some q → st.heap.get? b = some { cls := .none, data := .fields #[] } := fun {b q} h => hT _ (look_mem h)
  have aT : T.lookup a = none := by
    cases q : T.lookup a with
    | none => rfl
    | some y =>
      have z := isT q
      rw [ha] at z
      have z' : Data.seq vs.toArray _ = Data.fields #[] := congrArg Obj.data (Option.some.inj z)
      cases z'
  -- the abstract heap: the tables, and the script, if it is not of the written part
  obtain ⟨H, h0, h1, h2, h3⟩ : ∃ H : Hp, (∀ b q, T.lookup b = some q → H b = some (.tbl #[])) ∧ (∀ b, T.lookup b = none → H b = none ∨ (b = a ∧ H b = some fz)) ∧ ScrAt K (tabG T) H a (ns.map V.int) ∧ (∀ b o, K.lookup b = some o → H b = none) := by
    have ga : tabG T a = none := by unfold tabG; rw [aT]; rfl
    cases q : K.lookup a with
    | some o =>
      have e := kin a o q
      rw [ha] at e
      cases e
      refine ⟨fun b => (T.lookup b).map fun _ => .tbl #[], fun b q z => by show (T.lookup b).map _ = _; rw [z]; rfl, fun b z => .inl (by show (T.lookup b).map _ = _; rw [z]; rfl), .inr ⟨_, vs.toArray, _, q, rfl, rfl, rfl, ?_, ?_⟩, fun b o z => ?_⟩
      · rw [List.size_toArray, ln]; exact hl
      · simpa using rv
      · show (T.lookup b).map _ = _
        cases y : T.lookup b with
        | none => rfl
        | some t => rw [nT _ (look_mem y)] at z; cases z
    | none =>
      refine ⟨fun b => if b = a then some fz else (T.lookup b).map fun _ => .tbl #[], fun b q z => ?_, fun b z => ?_, .inl ⟨ga, .inr ⟨ob, if_pos rfl⟩⟩, fun b o e => ?_⟩
      · have n : b ≠ a := fun y => by rw [y, aT] at z; cases z
        show (if b = a then some fz else (T.lookup b).map fun _ => .tbl #[]) = _
        rw [if_neg n, z]; rfl
      · by_cases e : b = a
        · exact .inr ⟨e, if_pos e⟩
        · refine .inl ?_
          show (if b = a then some fz else (T.lookup b).map fun _ => .tbl #[]) = _
          rw [if_neg e, z]; rfl
      · show (if b = a then some fz else (T.lookup b).map fun _ => .tbl #[]) = _
        have n : b ≠ a := fun y => by rw [y, q] at e; cases e
        rw [if_neg n]
        cases y : T.lookup b with
        | none => rfl
        | some t => rw [nT _ (look_mem y)] at e; cases e
  have noD : ∀ {b : Addr} {o : Obj}, st.heap.get? b = some o → (∀ us n, o.data ≠ .seq us n) → o.data ≠ .fields #[] → H b = none := by
    intro b o e d1 d2
    cases y : T.lookup b with
    | some q =>
      have z := isT y
      rw [e] at z
      cases z
      exact absurd rfl d2
    | none =>
      rcases h1 b y with z | ⟨rfl, _⟩
      · exact z
      · rw [ha] at e
        cases e
        exact absurd rfl (d1 _ _)
  have keep : ∀ {b : Addr} {m : Str → Option Value}, st.heap.Ns b m → (hidT st.heap H).Ns b m := by
    rintro b m ⟨o, es, ep, e, d, r⟩
    exact ⟨o, es, ep, hidT_get e (noD e (fun _ _ z => by rw [d] at z; cases z) (fun z => by rw [d] at z; cases z)), d, r⟩
  have kin2 : K.In (hidT st.heap H) := fun b o e => hidT_get (kin b o e) (h3 b o e)
  have ok : HOk P w H st.heap := by
    intro b u e
    cases y : T.lookup b with
    | some q =>
      rw [h0 b q y] at e
      cases e
      exact isT y
    | none =>
      rcases h1 b y with z | ⟨rfl, z⟩
      · rw [z] at e; cases e
      · rw [z] at e
        cases e
        exact ⟨ha, by rw [List.length_map]; exact hl, vs, _, rv, ha⟩
  obtain ⟨ml, l1, l2⟩ := lim
  have e0 : Env0 P w K mg (hidT st.heap H) callerA [] st H :=
    { frames := rfl, mod := ⟨kin2, keep gl, ⟨mb, keep bl, bb⟩, ⟨ml, keep l1, l2⟩⟩, bs := fun b o e => of_hidT e, bsz := Nat.le_of_eq (hidT_size _ _), funs := trivial, frf := fun b hb => absurd (show b ∈ ([] : List Addr) from hb) (by simp), hok := ok, bare := .of_eq hg }
  have gok : GOk K (tabG T) H := fun b u e => by
    unfold tabG at e
    cases y : T.lookup b with
    | none => rw [y] at e; cases e
    | some q =>
      rw [y] at e
      cases e
      exact ⟨#[], h0 b q y, True.intro, fun pos cv hc => by
        have z : codeAmong pos [] = some cv := hc
        simp [codeAmong] at z⟩
  have rep : RepL K (tabG T) H [.scr ns] [.ref a] := repL_one (by unfold RepV; exact ⟨a, rfl, h2⟩)
  have prom : toSp K sp [.ref a] H (fun v _ => v = .bl true) E0 := ⟨_, _, _, noX, rep, gok, hsp, fun v d H' G' _ _ r q => by
    have q' : d = .bl true := q
    subst q'
    exact rv_bl r, fun _ _ _ _ _ _ _ _ z => z.elim⟩
  have TB : ∀ p ∈ cs, TabB (hidT st.heap H) mg p.1 p.2 := fun p hp => by
    obtain ⟨t, ht, et⟩ := List.mem_map.mp (hcs p hp)
    have hTp := hT t ht
    rw [et] at hTp
    refine ⟨?_, ?_, fun z => ?_⟩
    · obtain ⟨o, us, file, tf, flags, tg, inF, text, tt, e1, r1, r2, r3, r4, r5, r6, r7, r8, hne⟩ := C p hp
      refine ⟨o, us, file, tf, flags, tg, inF, text, tt, hidT_get e1 (noD e1 (fun _ _ z => by rw [r2] at z; cases z) (fun z => ?_)), r1, r2, r3, r4, r5, r6, r7, r8, hne⟩
      rw [r2] at z
      cases z
      simp at r3
    · obtain ⟨bm, om, b1, b2, b3, b4, b5, b6⟩ := hbm
      refine ⟨bm, om, b1, b2, fun q => ?_, fun q => ?_, hidT_get b3 (noD b3 (fun _ _ z => by rw [b6] at z; cases z) (fun z => by rw [b6] at z; cases z)), b4, b5, b6⟩
      · obtain ⟨o, es, ep, e, hd, _⟩ := gl
        rw [q, e] at b3
        cases b3
        rw [hd] at b6
        cases b6
      · rw [q, hTp] at b3
        cases b3
        cases b6
    · obtain ⟨o, es, ep, e, hd, _⟩ := gl
      rw [z, hTp] at e
      cases e
      cases hd
  refine codeAny_mono ((F _ kin2 (keep gl) TB).go callerA [] st H ⟨[.ref a], []⟩ [.ref a] [.ref a] _ _ hr hgd e0 (bind st (.ref a)) (.cons rfl .nil) prom) ?_
  intro r s2 hq
  match r, hq with
  | .ok (.ret u), hq =>
    obtain ⟨v, H2, os, bare, un, ok2, ru, qv⟩ := hq
    have qv' : v = .bl true := qv
    subst qv'
    obtain rfl : u = Value.bool true := ru
    have key : ∀ b o, T.lookup b = none → st.heap.get? b = some o → s2.heap.get? b = some o := by
      intro b o y e
      rcases h1 b y with z | ⟨rfl, z⟩
      · exact un.keep b o e z (by simp [frs]) (by simp)
      · have z2 := un.frzs _ ob _ z
        obtain ⟨e1, _⟩ := ok _ _ z
        obtain ⟨e2, _⟩ := ok2 _ _ z2
        rw [e] at e1
        cases e1
        exact e2
    have grown : ∀ b q, T.lookup b = some q → ∃ more : Array Value, s2.heap.get? b = some { cls := .none, data := .fields more } := fun b q y => by
      obtain ⟨more, z⟩ := un.tbls b #[] (h0 b q y)
      exact ⟨_, ok2 b _ z⟩
    refine ⟨rfl, ⟨fun b o e => ?_, fun b o e => ?_⟩, os, bare⟩
    · cases y : T.lookup b with
      | none => exact .inl (key b o y e)
      | some q =>
        obtain ⟨more, hm⟩ := grown b q y
        have hTb := isT y
        rw [hTb] at e
        cases e
        obtain ⟨c, hc⟩ := hct _ (look_mem y)
        exact .inr (.inl ⟨((C _ hc).tab hTb).isCodeTable, rfl, #[], more, rfl, by rw [Array.empty_append]; exact hm⟩)
    · cases y : T.lookup b with
      | none => exact ⟨o, key b o y e⟩
      | some q =>
        obtain ⟨more, hm⟩ := grown b q y
        exact ⟨_, hm⟩
theorem d_walkT {l : PySem.W.OpenLaw} {n k : Nat} {q : Program} {loose : List Str} {XP : (Str → Option Value) → Heap → Prop} {YP : World → Heap → Prop} {d : DefRec} {x : Str}
    (hn : l.most = some n) (hn2 : n ≤ sizeLine) (hdf : d.params.defaults = []) (hr : Room k callerA) (hgd : callerA.guards = some [])
    (F : ∀ (w : World) (mg : Str → Option Value) (fa : Addr) (h : Heap), YP w h → h.Ns mainGlobals mg → mg d.name = some (.ref fa) →
      ∃ (K : PySem.W.Frag) (fd : FuncData) (sp : DSp) (T : List (Addr × Str)) (cs : List (Addr × Addr)), K.In h ∧ (∀ (s : Shared) (u : Value), BindsTo s fd ⟨[u], []⟩ [(x, u)]) ∧
        (∀ p ∈ T, h.get? p.1 = some { cls := .none, data := .fields #[] }) ∧ (∀ p ∈ T, K.lookup p.1 = none) ∧ (∀ p ∈ cs, p.2 ∈ T.map (·.1)) ∧ (∀ p ∈ T, ∃ c, (c, p.1) ∈ cs) ∧ (∀ p ∈ cs, PySem.W.CodeHd h p.1 p.2) ∧
        (∀ ns : List Int, ns.length ≤ n → sp [.scr ns] (tabG T) (fun d _ => d = .bl true) noX) ∧
        ∀ base : Heap, K.In base → base.Ns mainGlobals mg → (∀ p ∈ cs, TabB base mg p.1 p.2) → DFn l.prog w K mg base k fa fd [x] sp) :
    PySem.W.WalkO q loose XP YP l.row.toRowW d [] (fun f vs => PySem.call f vs) := by
  refine Att.attach_call hn hdf ?_
  intro w s0 s1 mg mb fa o pm cd doc a vs ns G Y ho hd hcd hmg hobj hints hlen hg
  obtain ⟨K, fd, sp, T, cs, kin, hb, t1, t2, t3, t4, t5, hsp, hF⟩ := F w mg fa _ Y G.T.g hmg
  exact law_goT kin G.T.g G.T.b G.T.builtins G.T.nolimit hg t1 t2 t3 t4 t5 G.T.bmain hobj hints (Nat.le_trans hlen hn2) hr hgd hF hb (hsp ns hlen)
end Dl

namespace Dl
open PySem L2
end Dl

namespace Dl
open PySem L2
def bolsD : List D → Option (List Bool)
  | [] => some []
  | .bl b :: r => (bolsD r).map (b :: ·)
  | _ :: _ => none
theorem bolsD_of : ∀ {ds : List D} {bs : List Bool}, bolsD ds = some bs → ds = bs.map D.bl
  | [], bs, h => by simp [bolsD] at h; subst h; rfl
  | .bl b :: r, bs, h => by
    unfold bolsD at h
    cases e : bolsD r with
    | none => rw [e] at h; cases h
    | some l =>
      rw [e] at h
      simp at h
      subst h
      rw [bolsD_of e]; rfl
  | .non :: _, _, h => by simp [bolsD] at h
  | .int _ :: _, _, h => by simp [bolsD] at h
  | .str _ :: _, _, h => by simp [bolsD] at h
  | .byt _ :: _, _, h => by simp [bolsD] at h
  | .tup _ :: _, _, h => by simp [bolsD] at h
  | .lst _ :: _, _, h => by simp [bolsD] at h
  | .ref _ :: _, _, h => by simp [bolsD] at h
  | .scr _ :: _, _, h => by simp [bolsD] at h
@[simp] def bolsP (G : GH) (x : D) (P : List Bool → Prop) : Prop := match lsOf G x with
  | some ds => (match bolsD ds with
    | some bs => P bs
    | none => False)
  | none => False
@[simp] def rAllC : DRC := fun ds G Q => arg1 ds fun x => bolsP G x fun bs => Q (.bl (bs.all id)) G
theorem bols_pure : ∀ bs : List Bool, pureDs (bs.map D.bl) = true
  | [] => by simp [pureDs]
  | b :: bs => by simp [pureDs, pureD, bols_pure bs]
theorem bols_py : ∀ bs : List Bool, pyDs (bs.map D.bl) = bs.map PyData.bool
  | [] => by simp [pyDs]
  | b :: bs => by simp [pyDs, pyD, bols_py bs]
theorem bols_plain : ∀ bs : List Bool, PyData.plainAll (bs.map PyData.bool) = true
  | [] => by simp [PyData.plainAll]
  | b :: bs => by simp [PyData.plainAll, PyData.plain, bols_plain bs]
theorem bols_all : ∀ bs : List Bool, (bs.map PyData.bool).all PyData.truthy = bs.all id
  | [] => rfl
  | b :: bs => by simp [PyData.truthy, bols_all bs]
section
variable {X : Cx}
theorem c_all (hc : X.calm = true) : DCall X (.builtin "all") rAllC := by
  intro pins s σ H xs us Q I r ⟨G, ds, q, g, rl, h0, k⟩
  obtain ⟨d, rfl, h⟩ := arg1_of h0
  obtain ⟨x, rfl, rx⟩ := repL_1 rl
  unfold bolsP at h
  cases e : lsOf G d with
  | none => rw [e] at h; exact h.elim
  | some l =>
    rw [e] at h
    dsimp only at h
    cases e2 : bolsD l with
    | none => rw [e2] at h; exact h.elim
    | some bs =>
      rw [e2] at h
      dsimp only at h
      obtain ⟨a, ys, rfl, h1, l1⟩ := ls_at g rx e
      rw [bolsD_of e2] at l1
      obtain ⟨u, rfl, ru⟩ := vals1 r
      cases ru
      obtain ⟨its, rv, hl, _⟩ := I.list (SqL.of h1)
      obtain ⟨as, rd⟩ := Dp.readsAll I _ _ _ (dps_of l1 (bols_pure bs)) rv
      rw [bols_py] at rd
      refine PySem.W.all_list_data (I.ok.hd hc) hl.isList rd (bols_plain bs) (fun x hx => ?_) fun h' tk hk => ?_
      · obtain ⟨b, _, rfl⟩ := List.mem_map.mp hx
        trivial
      · rw [bols_all]
        exact ⟨.bl _, H, I.kept hk, rfl, k _ _ H G (Ext.refl G H) g bl_rv h⟩
end
end Dl
namespace Dl
open PySem PySem.Spec PyProof.Rows HT
section
variable {prog : Program} {w : World} {A : Around} {E : Value → Shared → Prop} {s : Shared}
theorem applied_rev {sl : Addr} {vl vu vs : Value} {n : Nat} {Q : Int × Int × Nat → Shared → Prop} (hs : s.heap.IsSliceOf sl vl vu vs) (pl : IsPart vl none) (pu : IsPart vu none) (ps : IsPart vs (some (-1)))
    (h : Q ((n : Int) - 1, -1, n) s) : wpAny (model prog w) A (Builtin.Slice.sliceApplied (.ref sl) (pure (n : Int))) Q E s := by
  obtain ⟨os, hos, hcs, hds⟩ := id hs
  unfold Builtin.Slice.sliceApplied Builtin.Slice.sliceFields
  refine wpAny_bind (wpAny_bind (wpAny_field hos hds (x := vl) rfl (wpAny_bind (wpAny_field hos hds (x := vu) rfl (wpAny_bind (wpAny_field hos hds (x := vs) rfl (wpAny_pure ?_)))))))
  refine wpAny_bind (slicePart_ ps ?_)
  show wpAny _ _ (if ((-1 : Int) == 0) = true then _ else _) _ _ s
  rw [if_neg (by decide)]
  refine wpAny_bind (slicePart_ pl (wpAny_bind (slicePart_ pu (wpAny_bind (wpAny_pure ?_)))))
  show wpAny _ _ (pure ((n : Int) - 1, (-1 : Int), Builtin.Slice.slicePlaces ((n : Int) - 1) (-1) (-1))) _ _ s
  have e : Builtin.Slice.slicePlaces ((n : Int) - 1) (-1) (-1) = n := by
    unfold Builtin.Slice.slicePlaces
    rw [if_neg (by decide)]
    split
    · rw [show (-(-1) : Int) = 1 from by decide, Int.ediv_one]; omega
    · omega
  rw [e]
  exact wpAny_pure h
theorem fm_congr {α β : Type} {f g : α → Option β} : ∀ {l : List α}, (∀ x ∈ l, f x = g x) → l.filterMap f = l.filterMap g
  | [], _ => rfl
  | x :: l, h => by
    rw [List.filterMap_cons, List.filterMap_cons, h x (List.mem_cons_self ..), fm_congr fun y hy => h y (List.mem_cons_of_mem _ hy)]
theorem rev_pick (xs : Array Value) : ((List.range xs.size).filterMap fun (m : Nat) => xs[(((xs.size : Int) - 1) + (m : Int) * (-1)).toNat]?).toArray = xs.toList.reverse.toArray := by
  have e : (List.range xs.size).filterMap (fun (m : Nat) => xs[(((xs.size : Int) - 1) + (m : Int) * (-1)).toNat]?) = ((List.range xs.size).map fun k => xs.size - 1 - k).filterMap (xs[·]?) := by
    rw [List.filterMap_map]
    refine fm_congr ?_
    intro m hm
    have := List.mem_range.mp hm
    show xs[(((xs.size : Int) - 1) + (m : Int) * (-1)).toNat]? = xs[xs.size - 1 - m]?
    congr 1
    omega
  rw [e, PySem.W.krv_range, List.filterMap_reverse, PySem.W.krv_all]
theorem getItem_tuple_rev {t sl : Addr} {items : Array Value} {vl vu vs : Value} {Q : Value → Shared → Prop} (ht : IsTup s.heap t items) (hs : s.heap.IsSliceOf sl vl vu vs) (pl : IsPart vl none) (pu : IsPart vu none) (ps : IsPart vs (some (-1)))
    (h : Q (.ref s.heap.objs.size) { s with heap := s.heap.push { cls := .type "tuple", data := .seq items.toList.reverse.toArray } })
    (hsz : items.size ≤ sizeLine) : wpAny (model prog w) A (getItem (.ref t) (.ref sl)) Q E s := by
  have htake : sizeOk (.seq items.toList.reverse.toArray) := by
    show items.toList.reverse.toArray.size ≤ sizeLine
    rw [List.size_toArray, List.length_reverse, Array.length_toList]
    exact hsz
  obtain ⟨os, hos, hcs, hds⟩ := id hs
  have hTs : s.TypeIs (.ref sl) "slice" := ⟨os, hos, hcs⟩
  unfold getItem
  try with_reducible refine wpAny_holding ?_
  first | refine wpAny_bind (wpAny_pure ?_) | skip
  refine wpAny_bind (wpAny_sequenceKey ht.typeIs (by decide) ?_)
  refine wpAny_bind (wpAny_callSpecial?_slot (name := Str.ofString "__getitem__") ht.typeIs PyProof.Rows.slot_tuple_getitem
    (wpAny_call_entry PyProof.Rows.slot_tuple_getitem ht.typeIs entry_tuple_getitem ?_ (args_tuple_getitem _ _)))
  show wpAny _ _ (Builtin.Tuple.tupleItemsOf (.ref t) >>= _) _ _ s
  refine wpAny_bind (tupleItemsOf_ ht ?_)
  refine wpAny_bind (wpAny_typeOf hTs ?_)
  rw [if_pos (by decide)]
  refine wpAny_bind (applied_rev hs pl pu ps ?_)
  have hno : ¬ (((items.size : Int) - 1 == 0 && (-1 : Int) == 1 && items.size == items.size) = true) := by
    intro q
    rw [Bool.and_eq_true, Bool.and_eq_true] at q
    exact absurd q.1.2 (by decide)
  show wpAny _ _ (if (((items.size : Int) - 1 == 0 && (-1 : Int) == 1 && items.size == items.size) = true) then _ else _) _ _ s
  rw [if_neg hno, rev_pick]
  first
    | exact wpAny_bind (m := Builtin.Tuple.tupleExact _) (wpAny_newObj_type (wpAny_pure ⟨_, rfl, wpAny_pure h⟩) htake)
    | exact wpAny_bind (m := Builtin.Tuple.tupleExact _) (wpAny_newObj_type (wpAny_bind (wpAny_pure (wpAny_pure ⟨_, rfl, wpAny_pure h⟩))) htake)
    | exact wpAny_bind (wpAny_bind (m := Builtin.Tuple.tupleExact _) (wpAny_newObj_type (wpAny_pure (wpAny_pure ⟨_, rfl, wpAny_pure h⟩)) htake))
    | exact wpAny_bind (wpAny_bind (m := Builtin.Tuple.tupleExact _) (wpAny_newObj_type (wpAny_pure ⟨_, rfl, wpAny_pure h⟩) htake))
end
end Dl
namespace Dl
open PySem L2
@[simp] def rRev : D → GH → DK → Prop := fun x G Q => match x with
  | .tup ds => Q (.tup ds.reverse) G
  | .lst ds => ∀ p, G p = none → Q (.ref p) (updG G p (.lst ds.reverse))
  | .ref a => (match G a with
    | some (.lst ds) => ∀ p, G p = none → Q (.ref p) (updG G p (.lst ds.reverse))
    | _ => False)
  | _ => False
@[simp] def dRev (te : DTE) : DTE := fun ρ G Q => te ρ G fun x G1 => rRev x G1 Q
def tRevA (K : PySem.W.Frag) (te : TE) : TE := fun σ H Q => te σ H fun x H1 => ∃ a xs, x = .ref a ∧ ((SqL K H1 a xs ∧ ∀ p, H1 p = none → Q (.ref p) (upd H1 p (.lst xs.reverse))) ∨ (SqT K H1 a xs ∧ ∀ p, H1 p = none → Q (.ref p) (upd H1 p (.tup xs.reverse))))
section
open PySem.Spec PyProof.Rows
variable {X : Cx}
theorem pe_revA {e : Expr} {te : TE} {kk : Nat} {q1 q2 q3 pos : Pos} (he : PE X e te) : PE X (.Subscript e (.Slice none none (some (.UnaryOp .USub (.Constant (.int 1) kk q1) q2)) q3) pos) (tRevA X.K te) := by
  constructor
  intro pins s σ H Q I h
  refine Subscript_ (thn (he.run pins s σ H _ I h) ?_)
  rintro v s1 ⟨x, H1, I1, r1, a, xs, rfl, q⟩
  cases r1
  have hst : PO X (some (.UnaryOp .USub (.Constant (.int 1) kk q1) q2)) (tPart (tUn (rU fun i => .int (-i)) (tC (.int 1)))) := po_some (pe_un un_neg pe_int)
  refine wpAny_Slice (thn (po_none.run pins s1 σ H1 (fun o Ha => o = none ∧ Ha = H1) I1 ⟨rfl, rfl⟩) ?_)
  rintro vl s2 ⟨l, H2, I2, pl, rfl, rfl⟩
  refine thn (po_none.run pins s2 σ H2 (fun o Hb => o = none ∧ Hb = H2) I2 ⟨rfl, rfl⟩) ?_
  rintro vu s3 ⟨u, H3, I3, pu, rfl, rfl⟩
  refine thn (hst.run pins s3 σ H3 (fun o Hc => o = some (-1) ∧ Hc = H3) I3 ⟨1, rfl, -1, rfl, rfl, rfl⟩) ?_
  rintro vs s4 ⟨o, H4, I4, ps, rfl, rfl⟩
  have I5 : Inv X pins σ H4 { s4 with heap := s4.heap.push { cls := .type "slice", data := .fields #[vl, vu, vs] } } := I4.kept (t' := s4.toks) fun b ob z => Heap.get?_push_of_some _ z
  have ho := Heap.IsSliceOf.new s4.heap vl vu vs
  rcases q with ⟨hx, q⟩ | ⟨hx, q⟩
  · obtain ⟨its, r, ht, hz⟩ := I5.list hx
    have hlen := r.length
    refine tail_any (ops := [.ref a, .ref s4.heap.objs.size]) ht.isList.typeIs (PySem.slot_list_getitem.lookup) ?_ (by with_unfolding_all rfl)
    refine wpAny_getItem_list_slice ht.isList ho pl pu ps (by decide) ?_ (by rw [List.size_toArray]; omega)
    rw [PySem.W.krv_pick]
    refine ⟨.ref _, _, I5.laid (t' := s4.toks) (o := .lst xs.reverse) (fun b ob z => Heap.get?_push_of_some _ z) (Nat.le_refl _) ?_, rfl, q _ (I5.hok.fresh (Nat.le_refl _))⟩
    exact ⟨by rw [List.length_reverse]; exact hz, _, 0, r.reverse, Heap.get?_push_size _ rfl⟩
  · obtain ⟨its, r, ht, hz⟩ := I5.tuple hx
    have hlen := r.length
    refine tail_any (ops := [.ref a, .ref s4.heap.objs.size]) ht.typeIs (PyProof.Rows.slot_tuple_getitem.lookup) ?_ (by with_unfolding_all rfl)
    refine getItem_tuple_rev ht ho pl pu ps ?_ (by rw [List.size_toArray]; omega)
    refine ⟨.ref _, _, I5.laid (t' := s4.toks) (o := .tup xs.reverse) (fun b ob z => Heap.get?_push_of_some _ z) (Nat.le_refl _) ?_, rfl, q _ (I5.hok.fresh (Nat.le_refl _))⟩
    exact ⟨by rw [List.length_reverse]; exact hz, _, r.reverse, IsTup.new _ _⟩
end
end Dl
namespace Dl
open PySem L2
section
variable {X : Cx}
theorem de_rev {e : Expr} {te : DTE} {kk : Nat} {q1 q2 q3 pos : Pos} (he : DE X e te) : DE X (.Subscript e (.Slice none none (some (.UnaryOp .USub (.Constant (.int 1) kk q1) q2)) q3) pos) (dRev te) := by
  refine (pe_revA he).imp fun σ H Q ⟨ρ, G, q, r, h, k⟩ => ?_
  refine ⟨ρ, G, _, r, h, fun x dx H1 G1 e1 r1 v1 h1 => ?_⟩
  have lcase : ∀ (a : Addr) (xs : List V) (ds : List D), x = .ref a → SqL X.K H1 a xs → RepL X.K G1 H1 ds xs → (∀ p, G1 p = none → q (.ref p) (updG G1 p (.lst ds.reverse))) →
      ∃ a xs, x = .ref a ∧ ((SqL X.K H1 a xs ∧ ∀ p, H1 p = none → Q (.ref p) (upd H1 p (.lst xs.reverse))) ∨ (SqT X.K H1 a xs ∧ ∀ p, H1 p = none → Q (.ref p) (upd H1 p (.tup xs.reverse)))) := by
    intro a xs ds ex hq rl hk
    refine ⟨a, xs, ex, .inl ⟨hq, fun p hp => ?_⟩⟩
    obtain ⟨e2, r2, v2⟩ := r1.newLst hp rl.reverse
    exact k _ _ _ _ (e1.trans e2) r2 v2 (hk p (r1.gok.fresh hp))
  cases dx with
  | tup ds =>
    obtain ⟨a, xs, ex, t, rl⟩ := tp_at v1
    refine ⟨a, xs, ex, .inr ⟨t, fun p hp => ?_⟩⟩
    obtain ⟨e2, r2, v2⟩ := r1.newTup hp rl.reverse
    exact k _ _ _ _ (e1.trans e2) r2 v2 h1
  | lst ds =>
    unfold RepV at v1
    obtain ⟨a, xs, ex, t, rl⟩ := v1
    exact lcase a xs ds ex t.sq rl h1
  | ref a =>
    cases rv_ref v1
    dsimp only [rRev] at h1
    cases hg : G1 a with
    | none => rw [hg] at h1; exact h1.elim
    | some o =>
      rw [hg] at h1
      cases o with
      | lst ds =>
        obtain ⟨xs, h3, h4⟩ := r1.gok a _ hg
        exact lcase a xs ds rfl (SqL.of h3) h4 h1
      | _ => exact h1.elim
  | _ => exact h1.elim
theorem iRev {te : DTE} {ρ : DSt} {G : GH} {Q : DK} (h : te ρ G fun x G1 => rRev x G1 Q) : dRev te ρ G Q := h
theorem revT {ds : List D} {G : GH} {Q : DK} (h : Q (.tup ds.reverse) G) : rRev (.tup ds) G Q := h
theorem revL {ds : List D} {G : GH} {Q : DK} (h : ∀ p, G p = none → Q (.ref p) (updG G p (.lst ds.reverse))) : rRev (.lst ds) G Q := h
theorem iCallG {sp : DSp} {n m : Nat} {src : List (Nat × Nat)} {dv : List D} {ta tk : DTA} {ρ : DSt} {G : GH} {Q : DK} (h : ta ρ G fun ds G1 => tk ρ G1 fun es G2 => ds.length = n ∧ es.length = m ∧ sp (pick src ds dv es) G2 Q noX) : dCallG sp n m src dv ta tk ρ G Q := h
theorem allC_i {l : List D} {bs : List Bool} {G : GH} {Q : DK} (e : bolsD l = some bs) (h : Q (.bl (bs.all id)) G) : rAllC [.lst l] G Q := by
  unfold rAllC arg1 bolsP lsOf
  dsimp only
  rw [e]
  exact h
end
end Dl

namespace Dl
open PySem L2
structure ShwA (d : D) : Prop where
  ok : okD d
  few : fewD d = true
  len : (shD d).length ≤ sizeLine
theorem Shw.a {d : D} (h : Shw d) : ShwA d := ⟨h.ok, h.few, h.len⟩
@[simp] def rReprA : DRC := fun ds G Q => arg1 ds fun x => ShwA (vw G x) ∧ Q (.str (shD (vw G x))) G
section
variable {X : Cx}
theorem c_reprA (hgd : X.A.guards = some []) (hu : X.A.units + 70 < cLine) : DCall X (.builtin "repr") rReprA := by
  intro pins s σ H xs us Q I r ⟨G, ds, q, g, rl, h0, k⟩
  obtain ⟨d, rfl, hS, h⟩ := arg1_of h0
  by_cases hsq : isSeqD (vw G d) = true
  · exact c_repr hgd hu pins s σ H xs us Q I r ⟨G, [d], q, g, rl, ⟨⟨hsq, hS.ok, hS.few, hS.len⟩, h⟩, k⟩
  · obtain ⟨x, rfl, rx⟩ := repL_1 rl
    obtain ⟨u, rfl, ru⟩ := vals1 r
    have hp := hS.ok.1
    have hlen := hS.len
    have hfew := hS.few
    have hv : vw G d = d := by
      cases d with
      | ref a =>
        dsimp only [vw] at hsq ⊢
        split
        · rename_i e; rw [e] at hsq; exact absurd rfl hsq
        · rfl
      | _ => rfl
    rw [hv] at h hp hsq hlen hfew
    cases d with
    | non => cases rv_non rx; cases ru; exact PySem.P.repr_of_none ⟨.str _, H, I.tok _, ⟨_, rfl⟩, k _ _ H G (Ext.refl G H) g str_rv h⟩
    | bl b => cases rv_bl rx; cases ru; exact PySem.P.repr_of_bool ⟨.str _, H, I.tok _, ⟨_, rfl⟩, k _ _ H G (Ext.refl G H) g str_rv h⟩
    | int i =>
      cases rv_int rx
      obtain ⟨t, rfl⟩ := ru
      exact PySem.P.repr_of_int (by simpa [fewD] using hfew) ⟨.str _, H, I.tok _, ⟨_, rfl⟩, k _ _ H G (Ext.refl G H) g str_rv h⟩
    | str z =>
      cases rv_str rx
      obtain ⟨t, rfl⟩ := ru
      exact PySem.P.repr_of_str ⟨.str _, H, I.tok _, ⟨_, rfl⟩, k _ _ H G (Ext.refl G H) g str_rv h⟩ hlen
    | tup l => exact absurd rfl hsq
    | lst l => exact absurd rfl hsq
    | byt _ => simp [pureD] at hp
    | ref _ => simp [pureD] at hp
    | scr _ => simp [pureD] at hp
    | fn _ _ _ _ => simp [pureD] at hp
    | exh _ _ _ _ _ => simp [pureD] at hp
end
end Dl

namespace Dl
open PySem L2
end Dl

namespace Dl
open PySem L2
theorem iNeg {te : DTE} {ρ : DSt} {G : GH} {Q : DK} (h : te ρ G fun d G1 => match d with
  | .int i => Q (.int (-i)) G1
  | _ => False) : dNeg te ρ G Q := h
theorem vw_of {G : GH} {d : D} (h : pureD d = true) : vw G d = d := by
  cases d with
  | ref a => simp [pureD] at h
  | _ => rfl
theorem beqStr (a b : Str) : (a == b) = decide (a = b) := by
  by_cases h : a = b
  · subst h; simp
  · rw [decide_eq_false h, beq_eq_false_iff_ne]; exact h
theorem cmp_i {f : Bool → Bool} {x y : D} {G : GH} {Q : DK} (hx : okD x) (hy : okD y) (h : Q (.bl (f (eqvD x y))) G) : rCmp f x y G Q := by
  unfold rCmp
  rw [vw_of hx.1, vw_of hy.1]
  cases x with
  | str a =>
    cases y with
    | str b => dsimp only; rw [eqvD, beqStr] at h; exact h
    | _ => exact ⟨hx, hy, h⟩
  | int a =>
    cases y with
    | int b => dsimp only; rw [eqvD] at h; exact h
    | _ => exact ⟨hx, hy, h⟩
  | _ => exact ⟨hx, hy, h⟩
theorem isN_T {G : GH} {Q : DK} (h : Q (.bl true) G) : rIsN id .non .non G Q := h
theorem isN_F {d : D} {G : GH} {Q : DK} (e : isNonD d = false) (h : Q (.bl false) G) : rIsN id d .non G Q := by
  show Q (.bl (id (isNonD d))) G
  rw [e]; exact h
theorem lcFt {α : Type} (xs : List α) (g h : α → D) (p : α → Bool) {wi : DTI} {ct : CT} {tt : DTT} {te : DTE} {ρ : DSt} {vs : List Nat} {G : GH} {Q : DK} (hw : ∀ P : List D → (GH → Prop) → GH → Prop, (∀ ok G1, (∀ G, ok G) → Grow G G1 → P (xs.map g) ok G1) → wi ρ G P)
    (hl : xs.length ≤ sizeLine) (hf : ∀ x ∈ xs, ∃ ρ2, bindC ct (g x) (wipeD ρ vs) = some ρ2 ∧ (∀ (G : GH) (K : Bool → GH → Prop), (∀ G', Grow G G' → K (p x) G') → tt ρ2 G K) ∧ (p x = true → ∀ (G : GH) (K : DK), (∀ G', Grow G G' → K (h x) G') → te ρ2 G K))
    (hq : ∀ G', Grow G G' → Q (.lst ((xs.filter p).map h)) G') : dLc wi ct tt te vs ρ G (frzK Q) := by
  unfold dLc
  refine hw _ ?_
  intro ok G1 hok g1 a ha
  have key : ∀ (rs : List α) (acc : List D) (G' : GH), (∀ x ∈ rs, x ∈ xs) → acc.length + rs.length ≤ xs.length → acc ++ (rs.filter p).map h = (xs.filter p).map h → Grow G1 G' → G' a = some (.lst acc) → dLcGo ok ct tt te (wipeD ρ vs) a (rs.map g) G' (frzK Q) := by
    intro rs
    induction rs with
    | nil =>
      intro acc G' _ _ e gg ea
      refine ⟨hok _, frzR ea ?_⟩
      have e2 : acc = (xs.filter p).map h := by simpa using e
      rw [e2]
      exact hq _ (g1.trans (Grow.drop ha gg))
    | cons r rs ih =>
      intro acc G' hm hl2 e gg ea
      rw [List.length_cons] at hl2
      obtain ⟨ρ2, e2, kt, ke⟩ := hf r (hm r (List.mem_cons_self ..))
      rw [List.map_cons]
      unfold dLcGo
      refine ⟨hok _, ?_⟩
      rw [e2]
      refine kt _ _ fun G3 g3 => ?_
      cases hp : p r with
      | false =>
        refine ifF ?_
        rw [List.filter_cons_of_neg (by rw [hp]; decide)] at e
        exact ih acc G3 (fun x hx => hm x (List.mem_cons_of_mem _ hx)) (by omega) e (gg.trans g3) (g3 _ _ ea)
      | true =>
        refine ifT ?_
        rw [List.filter_cons_of_pos hp] at e
        refine ke hp _ _ fun G4 g4 => ?_
        have ea4 := g4 _ _ (g3 _ _ ea)
        rw [ea4]
        refine ⟨by omega, ?_⟩
        refine ih (acc ++ [h r]) _ (fun x hx => hm x (List.mem_cons_of_mem _ hx)) (by rw [List.length_append, List.length_singleton]; omega) ?_ (Grow.upd2 ha ((gg.trans g3).trans g4)) updG_same
        rw [← e]; simp
  exact key xs [] _ (fun _ h => h) (by simp) (by simp) (Grow.upd ha) updG_same
end Dl

namespace Dl
open PySem L2
section
variable {X : Cx}
end
section
variable {X : Cx}
end
end Dl

namespace Dl
open PySem L2
theorem Callee.weak {P : Program} {w : World} {K : PySem.W.Frag} {mg : Str → Option Value} {base : Heap} {k : Nat} {x : Str} {ps : List Str} {sp sp' : DSp} (C : Callee P w K mg base k x ps sp) (h : ∀ ds G Q E, sp' ds G Q E → sp ds G Q E) : Callee P w K mg base k x ps sp' := by
  obtain ⟨f, fd, F, a⟩ := C.ex
  exact ⟨f, fd, F.weaken (fun xs H Q E ⟨ds, G, q, e, r, g, hs, k1, k2⟩ => ⟨ds, G, q, e, r, g, h _ _ _ _ hs, k1, k2⟩), a⟩
end Dl

namespace Dl
open PySem PySem.Spec PyProof.Rows L2
section
variable {prog : Program} {w : World} {A : Around} {R : Result → Shared → Prop} {s : Shared} {env : Env} {elt ta ia tb ib : Expr} {sc : Scope} {pos : Pos} {it acc : Value}
abbrev calmly (P : Program) (w : World) (A : Around) {α : Type} (t : Sem α) (Q : α → Shared → Prop) (s : Shared) : Prop := wpAny (model P w) A t Q (fun _ _ => False) s
theorem calmly.go {P : Program} {α : Type} {t : Sem α} {Q Q' : α → Shared → Prop} {E : Value → Shared → Prop} (h : calmly P w A t Q s) (k : ∀ a s', Q a s' → Q' a s') : wpAny (model P w) A t Q' E s :=
  wpAny_mono h k fun _ _ z => z.elim
end
end Dl

namespace Dl
open PySem PySem.Spec PyProof.Rows L2
section
variable {Y : Cx} {tg : Expr} {J : It} {fp : List Addr} {it : Addr} {tn : Nat → Heap → Prop} {pins : List (Addr × Obj)} {σ : L2.St} {H : Hp} {s : Shared} {g : TG}
end
section
variable {X : Cx}
end
end Dl

namespace Dl
open PySem PySem.Spec PyProof.Rows L2
section
variable {P : Program} {w : World} {A : Around} {E : Value → Shared → Prop} {s : Shared}
end
end Dl

namespace Dl
open PySem PySem.Spec PyProof.Rows L2
section
variable {P : Program} {w : World} {A : Around} {E : Value → Shared → Prop} {s : Shared} {a : Addr}
end
section
variable {X : Cx}
end
end Dl

namespace Dl
open PySem L2
section
variable {K : PySem.W.Frag} {w : World}
end
section
variable {X : Cx}
end
end Dl

namespace Dl
open PySem L2
section
variable {X : Cx}
end
section
variable {te ta tb : DTE} {ρ : DSt} {G : GH} {Q : DK}
end
end Dl

namespace Dl
open PySem L2
structure FCallee (P : Program) (w : World) (K : PySem.W.Frag) (mg : Str → Option Value) (base : Heap) (k : Nat) (x : Str) (ps : List Str) (sp : DSp) : Prop where
  ex : ∃ f fd, FnOk P w K mg base CX0 k f fd ps (toSp K sp) ∧ mg x = some (.ref f) ∧ PySem.W.keepIn K (.ref f) = true ∧ Binds K fd ps [] ∧ KwB K fd ps ps (fun l => l)
section
variable {P : Program} {w : World} {K : PySem.W.Frag} {mg : Str → Option Value} {base : Heap} {j k : Nat} {x : Str} {ps : List Str} {sp : DSp}
end
section
variable {X : Cx} {k : Nat} {x : Str} {ps : List Str} {sp : DSp} {p pos : Pos} {e : Expr} {es : List Expr} {ta : DTA}
end
section
variable {P : Program} {w : World} {K : PySem.W.Frag} {mg : Str → Option Value} {base : Heap} {x qual : Str} {params : Arguments} {body : List Stmt} {scope : Scope} {f : Addr} {fd : FuncData} {N ps : List Str} {k : Nat} {sp : DSp} {t : DTS}
end
end Dl

namespace Dl
open PySem L2
section
variable {X : Cx}
end
structure DGE where
  nx : List D → DSt → GH → Prop
  rt : List D → DK
  bk : List D → DSt → GH → Prop := fun _ _ _ => False
  ct : List D → DSt → GH → Prop := fun _ _ _ => False
abbrev DTY := DGE → List D → DSt → GH → Prop
def DGE.at (E : DGE) (ds : List D) : DEnds := { nx := E.nx ds, rt := E.rt ds, bk := E.bk ds, ct := E.ct ds }
section
variable {X : Cx}
end
end Dl

namespace Dl
open PySem L2
abbrev DSpG := List D → GH → (List D → GH → Prop) → Prop
def toSpG (K : PySem.W.Frag) (sp : DSpG) : SpG := fun vs H Qv _ => ∃ ds G q, RepL K G H ds vs ∧ GOk K G H ∧ sp ds G q ∧
  ∀ zs es H' G', Ext G H G' H' → GOk K G' H' → RepL K G' H' es zs → q es G' → Qv zs H'
structure GCallee (P : Program) (w : World) (K : PySem.W.Frag) (mg : Str → Option Value) (base : Heap) (k : Nat) (x : Str) (ps : List Str) (sp : DSpG) : Prop where
  ex : ∃ j f fd, j + 3 ≤ k ∧ L2.GFn P w K mg base j f fd ps (toSpG K sp) ∧ mg x = some (.ref f) ∧ PySem.W.keepIn K (.ref f) = true ∧ Binds K fd ps []
section
variable {P : Program} {w : World} {K : PySem.W.Frag} {mg : Str → Option Value} {base : Heap} {j k : Nat} {x : Str} {ps : List Str} {sp : DSpG}
variable {qual : Str} {params : Arguments} {body : List Stmt} {scope : Scope} {f : Addr} {fd : FuncData} {N : List Str} {t : DTY}
end
section
variable {X : Cx} {k : Nat} {x : Str} {ps : List Str} {sp : DSpG} {p p2 pos pos2 : Pos} {e : Expr} {es : List Expr} {ta : DTA}
end
section
variable {X : Cx}
end
end Dl

namespace Dl
open PySem L2
mutual
theorem plain_py : ∀ d : D, (pyD d).plain = true
  | .non => rfl
  | .bl _ => rfl
  | .int _ => rfl
  | .str _ => rfl
  | .tup ds => by rw [pyD, PyData.plain]; exact plains_py ds
  | .lst ds => by rw [pyD, PyData.plain]; exact plains_py ds
  | .byt _ => rfl
  | .ref _ => rfl
  | .scr _ => rfl
  | .fn _ _ _ _ => rfl
  | .exh _ _ _ _ _ => rfl
theorem plains_py : ∀ ds : List D, PyData.plainAll (pyDs ds) = true
  | [] => rfl
  | d :: ds => by rw [pyDs, PyData.plainAll, plain_py d, plains_py ds]; rfl
end
theorem any_py {x : D} (hx : pureD x = true) : ∀ {ds : List D}, pureDs ds = true → ((pyDs ds).any fun y => PyData.eqv y (pyD x)) = inD x ds
  | [], _ => rfl
  | d :: ds, h => by
    rw [pureDs, Bool.and_eq_true] at h
    have ih := any_py hx h.2
    unfold inD at ih ⊢
    rw [pyDs, List.any_cons, List.any_cons, ih, eqv_py d x h.1 hx]
section
variable {X : Cx}
theorem vw_pure {G : GH} {d : D} (h : pureD d = true) : vw G d = d := by
  cases d with
  | ref a => simp [pureD] at h
  | _ => rfl
end
end Dl

namespace Dl
open PySem L2
section
variable {X : Cx}
def rInT (f : Bool → Bool) : DR2 := fun x y G Q => match y with
  | .tup ds => okD x ∧ okD (.tup ds) ∧ Q (.bl (f (inD x ds))) G
  | _ => False
theorem o_inT (hu : X.A.units + 70 < cLine) : DOp X (compareOp .In) (rInT id) := by
  intro pins s σ H x y v u Q I rx ry ⟨G, dx, dy, q, g, r1, r2, h, k⟩
  cases dy with
  | tup ds =>
    obtain ⟨h1, h2, h3⟩ := h
    have a1 := vw_dp g r1 (by rw [vw_pure h1.1]; exact h1.1)
    have a2 := vw_dp g r2 (by rw [vw_pure h2.1]; exact h2.1)
    rw [vw_pure h1.1] at a1
    rw [vw_pure h2.1, pyD] at a2
    obtain ⟨as, ra⟩ := Dp.reads I _ x v a1 rx
    obtain ⟨bs, rb⟩ := Dp.reads I _ y u a2 ry
    have hd : (pyD dx).depth ≤ 64 := by rw [depth_py]; exact h1.2
    refine SeqAt.in_tuple_data rb ra (plains_py ds) (plain_py dx) (by omega) ⟨.bl _, H, I, rfl, ?_⟩
    rw [any_py h1.1 (by have := h2.1; rwa [pureD] at this)]
    exact k _ _ H G (Ext.refl G H) g bl_rv h3
  | _ => exact h.elim
end
end Dl

namespace Dl
open PySem L2 PySem.W PySem.SeqAt PyProof.Rows
open AutoSeq1 (wpAny_loadPart')
open MeetsSeq MeetsSeq2 MeetsSeq3 SeqRoads2
structure LtAsk (A : Around) (s : Shared) (p q : Array Value) (e r : Nat → Bool) : Prop where
  eq : ∀ j (h1 : j < p.size) (h2 : j < q.size), (∀ i, i < j → e i = true) → EqAt A s p[j] q[j] (e j)
  lt : ∀ j (h1 : j < p.size) (h2 : j < q.size), (∀ i, i < j → e i = true) → e j = false → RcLt A s p[j] q[j] (r j)
end Dl

namespace Dl
open PySem L2 PySem.W PySem.SeqAt PyProof.Rows
mutual
/-- of like kinds as far as they agree, and where they first differ -/
def cmpb : PyData → PyData → Bool
  | .bool _, .bool _ => true
  | .int _, .int _ => true
  | .str _, .str _ => true
  | .tuple xs, .tuple ys => cmpbs xs ys
  | _, _ => false
def cmpbs : List PyData → List PyData → Bool
  | x :: xs, y :: ys => cmpb x y && (!PyData.eqv x y || cmpbs xs ys)
  | _, _ => true
end
end Dl

namespace Dl
open PySem L2 PySem.W PySem.SeqAt PyProof.Rows
structure Srt (ds : List PyData) : Prop where
  one : ∀ d, d ∈ ds → d.plain = true ∧ d.depth ≤ 60 ∧ ∃ i r, d = .tuple (.int i :: r)
  two : ∀ d, d ∈ ds → ∀ d', d' ∈ ds → cmpb d d' = true
section
variable {prog : Program} {w : World} {A : Around} {E : Value → Shared → Prop} {s : Shared}
end
end Dl

namespace Dl
open PySem L2
inductive Ech {α β : Type} (R : α → β → Prop) : List α → List β → Prop
  | nil : Ech R [] []
  | cons {a : α} {b : β} {as : List α} {bs : List β} : R a b → Ech R as bs → Ech R (a :: as) (b :: bs)
theorem Ech.left {α β : Type} {R : α → β → Prop} {us : List α} {ds : List β} (t : Ech R us ds) : ∀ v ∈ us, ∃ d ∈ ds, R v d := by
  induction t with
  | nil => intro v h; cases h
  | cons q t ih =>
    intro v h
    rcases List.mem_cons.mp h with z | z
    · subst z; exact ⟨_, List.mem_cons_self .., q⟩
    · obtain ⟨d, hd, r⟩ := ih v z; exact ⟨d, List.mem_cons_of_mem _ hd, r⟩
structure SrtD (l : List D) : Prop where
  pure : pureDs l = true
  one : ∀ d, d ∈ l → depD d ≤ 60 ∧ ∃ i r, d = .tup (.int i :: r)
  two : ∀ d, d ∈ l → ∀ d', d' ∈ l → cmpb (pyD d) (pyD d') = true
end Dl

namespace Dl
open PySem L2 PyProof.Rows
section
variable {X : Cx} {o : Expr} {td : TE} {p apos mpos pos : Pos}
end
end Dl

namespace Dl
open PySem L2
end Dl

namespace Dl
open PySem L2
section
variable {K : PySem.W.Frag} {G : GH} {H : Hp}
end

section
variable {X : Cx} {e o value : Expr} {c f : Str} {pos pos' : Pos} {te to tv : DTE}
end

section
variable {X : Cx} {CX : CXT} {k : Nat} {C f : Addr} {fd : FuncData} {ps : List Str} {x m : Str} {p pos apos : Pos} {e o : Expr} {es : List Expr} {E : XK} {ta : TE} {t : TA}
end
structure MCallee (P : Program) (w : World) (K : PySem.W.Frag) (mg : Str → Option Value) (base : Heap) (k : Nat) (c m : Str) (ps : List Str) (sp : DSp) : Prop where
  ex : ∃ f fd, DFn P w K mg base k f fd ps sp ∧ Cls K (He.ga K c) ∧ Meth K (He.ga K c) m f ∧ Binds K fd ps []
structure ICallee (P : Program) (w : World) (K : PySem.W.Frag) (mg : Str → Option Value) (base : Heap) (k : Nat) (c : Str) (ps : List Str) (sp : DSp) : Prop where
  ex : ∃ f fd, DFn P w K mg base k f fd ps sp ∧ Mk K (He.ga K c) f ∧ mg c = some (.ref (He.ga K c)) ∧ Binds K fd ps []
section
variable {X : Cx} {k : Nat} {c m : Str} {ps : List Str} {sp : DSp} {p pos apos : Pos} {e o : Expr} {es : List Expr} {ta : DTA} {to : DTE}
end
end Dl

namespace Dl
open PySem L2
def WFor (K : PySem.W.Frag) (a : Addr) (kvs : List (Str × Int)) (z : Str) : Prop := match kvs.lookup z with
  | some i => ∃ t, PySem.W.nsIn K a z = some (some (.int i t))
  | none => PySem.W.nsIn K a z = some none
structure WDic (K : PySem.W.Frag) (w : World) (mg : Str → Option Value) (x : Str) (kvs : List (Str × Int)) : Prop where
  ex : ∃ a es n, mg x = some (.ref a) ∧ KDict K w a es n ∧ ∀ z, WFor K a kvs z
section
variable {X : Cx} {x : Str} {kvs : List (Str × Int)} {i : Expr} {ty : DTE} {pos p : Pos}
end

def dicI (K : PySem.W.Frag) (a : Addr) (kvs : List (Str × Int)) : Bool := kvs.all fun q => match PySem.W.nsIn K a q.1 with
  | some (some (.int j _)) => decide (j = q.2)
  | _ => false
theorem lookup_mem {z : Str} {i : Int} : ∀ {kvs : List (Str × Int)}, kvs.lookup z = some i → (z, i) ∈ kvs
  | (g, j) :: r, h => by
    by_cases hg : z = g
    · have hb : (z == g) = true := beq_iff_eq.mpr hg
      simp only [List.lookup, hb, Option.some.injEq] at h
      subst h; subst hg
      exact List.mem_cons_self ..
    · have hb : (z == g) = false := beq_eq_false_iff_ne.mpr hg
      simp only [List.lookup, hb] at h
      exact List.mem_cons_of_mem _ (lookup_mem h)
theorem lookup_no {z : Str} : ∀ {kvs : List (Str × Int)}, kvs.lookup z = none → z ∉ kvs.map (·.1)
  | [], _ => by simp
  | (g, j) :: r, h => by
    by_cases hg : z = g
    · have hb : (z == g) = true := beq_iff_eq.mpr hg
      simp only [List.lookup, hb] at h
      cases h
    · have hb : (z == g) = false := beq_eq_false_iff_ne.mpr hg
      simp only [List.lookup, hb] at h
      simp only [List.map_cons, List.mem_cons, not_or]
      exact ⟨hg, lookup_no h⟩
theorem keys_no {P : Params} {z : Str} : ∀ {l : List DictEntry} {ks : List Str}, l.map He.keyOf = He.keysIn P ks → z ∉ ks → l.find? (·.key.isStr z) = none ∧ l.any (·.refKey) = false
  | [], _, _, _ => ⟨rfl, rfl⟩
  | e :: r, [], h, _ => by cases h
  | e :: r, k :: ks, h, hz => by
    have h1 : He.keyOf e :: r.map He.keyOf = some (k, PyData.keyHash P k) :: He.keysIn P ks := h
    injection h1 with h2 h3
    simp only [List.mem_cons, not_or] at hz
    obtain ⟨a, b⟩ := keys_no h3 hz.2
    unfold He.keyOf at h2
    split at h2
    · rename_i y t q
      have h4 := Option.some.inj h2
      obtain ⟨h5, h6⟩ := Prod.mk.inj h4
      have f1 : e.key.isStr z = false := by
        rw [q]
        show (y == z) = false
        rw [h5]
        exact beq_eq_false_iff_ne.mpr (fun he => hz.1 he.symm)
      refine ⟨by rw [List.find?_cons, f1]; exact a, ?_⟩
      rw [List.any_cons, b, Bool.or_false]
      unfold DictEntry.refKey
      rw [q]
    · cases h2
theorem wfor_of {K : PySem.W.Frag} {w : World} {a : Addr} {es : Array DictEntry} {n : Nat} {kvs : List (Str × Int)} (kd : KDict K w a es n) (hk : es.toList.map He.keyOf = He.keysIn w.params (kvs.map (·.1))) (hv : dicI K a kvs = true) (z : Str) : WFor K a kvs z := by
  unfold WFor
  cases q : kvs.lookup z with
  | some i =>
    have h2 := List.all_eq_true.mp hv _ (lookup_mem q)
    dsimp only at h2 ⊢
    cases e : PySem.W.nsIn K a z with
    | none => rw [e] at h2; cases h2
    | some o =>
      rw [e] at h2
      cases o with
      | none => cases h2
      | some u =>
        cases u with
        | int j t => exact ⟨t, by rw [of_decide_eq_true h2]⟩
        | _ => cases h2
  | none =>
    obtain ⟨f1, f2⟩ := keys_no (z := z) hk (lookup_no q)
    dsimp only
    unfold PySem.W.nsIn
    rw [kd.at_]
    dsimp only
    rw [f1]
    dsimp only
    rw [f2]
    rfl
theorem dicW_keys {K : PySem.W.Frag} {w : World} {a : Addr} {ks : List Str} (h : He.dicW K a = some (He.keysIn w.params ks)) : ∃ es n, KDict K w a es n ∧ es.toList.map He.keyOf = He.keysIn w.params ks := by
  obtain ⟨es, n, kd⟩ := He.dicW_ok h
  refine ⟨es, n, kd, ?_⟩
  unfold He.dicW at h
  rw [kd.at_] at h
  dsimp only at h
  have e1 : (decide (("dict" : String) = "dict") && ((#[] : Array (Option Value)).isEmpty && !(a == sysModules))) = true := by
    rw [kd.low]; decide
  rw [e1] at h
  exact Option.some.inj h
abbrev TabX : Type := Str × List (Str × Int)
def obsXT (fx : List Fx) (fn : List He.DefD) (ts : List TabX) (K : PySem.W.Frag) : He.AlT := (obsX (fx ++ ts.map fun t => .fa (.glo t.1)) fn K, (ts.map fun t => match dicI K (He.ga K t.1) t.2 with
  | true => He.dicW K (He.ga K t.1)
  | false => none))
def valXT (fn : List He.DefD) (ts : List TabX) (w : World) : He.AlT := (He.valD fn, ts.map fun t => some (He.keysIn w.params (t.2.map (·.1))))
def SaysXT (fx : List Fx) (fn : List He.DefD) (ts : List TabX) (w : World) (K : PySem.W.Frag) : Prop := obsXT fx fn ts K = valXT fn ts w
section
variable {fx : List Fx} {fn : List He.DefD} {ts : List TabX} {K : PySem.W.Frag} {w : World}
theorem SaysXT.x (c : SaysXT fx fn ts w K) : SaysX (fx ++ ts.map fun t => .fa (.glo t.1)) fn K := congrArg (fun z : He.AlT => z.1) c
theorem SaysXT.fact (c : SaysXT fx fn ts w K) (i : Nat) {f : Fx} (h : fx[i]? = some f := by rfl) : f.ok K = true := by
  have hi : i < fx.length := (List.getElem?_eq_some_iff.mp h).1
  exact c.x.fact i (by rw [List.getElem?_append_left hi]; exact h)
theorem SaysXT.def_ (c : SaysXT fx fn ts w K) (i : Nat) {d : He.DefD} (h : fn[i]? = some d := by rfl) : ∃ fd, FunD K d.name d.qual d.params d.body d.scope (d.dvs K) (d.kws K) (He.fAd K d.at_) fd := c.x.def_ i h
theorem SaysXT.tab {h : Heap} {mg : Str → Option Value} (X : K.In h) (Gn : h.Ns mainGlobals mg) (c : SaysXT fx fn ts w K) (i : Nat) {t : TabX} (ht : ts[i]? = some t := by rfl) : WDic K w mg t.1 t.2 := by
  have e : (ts.map fun t => match dicI K (He.ga K t.1) t.2 with
    | true => He.dicW K (He.ga K t.1)
    | false => none) = ts.map fun t => some (He.keysIn w.params (t.2.map (·.1))) := congrArg (fun z : He.AlT => z.2) c
  have e2 := congrArg (fun l => l[i]?) e
  rw [List.getElem?_map, List.getElem?_map, ht] at e2
  have e3 : (match dicI K (He.ga K t.1) t.2 with
    | true => He.dicW K (He.ga K t.1)
    | false => none) = some (He.keysIn w.params (t.2.map (·.1))) := Option.some.inj e2
  have hv : dicI K (He.ga K t.1) t.2 = true := by
    cases q : dicI K (He.ga K t.1) t.2 with
    | true => rfl
    | false => rw [q] at e3; cases e3
  rw [hv] at e3
  obtain ⟨es, n, kd, hk⟩ := dicW_keys e3
  have hg : (Fx.fa (.glo t.1)).ok K = true := c.x.fact (fx.length + i) (by
    rw [List.getElem?_append_right (Nat.le_add_right _ _), Nat.add_sub_cancel_left, List.getElem?_map, ht]
    rfl)
  exact ⟨_, es, n, He.glo_ok X Gn hg, kd, fun z => wfor_of kd hk hv z⟩
end
end Dl

namespace Dl
open PySem L2 LamX
inductive OT | nil | node (m : Nat) (o : Obj) (l r : OT)
end Dl

namespace Dl
open PySem PySem.Spec PyProof.Rows L2 LamX
def dicsOf (ts : List TabX) (K : PySem.W.Frag) : List (Option (List (Option (Str × Int)))) := ts.map fun t => match dicI K (He.ga K t.1) t.2 with
  | true => He.dicW K (He.ga K t.1)
  | false => none
def dicsV (ts : List TabX) (w : World) : List (Option (List (Option (Str × Int)))) := ts.map fun t => some (He.keysIn w.params (t.2.map (·.1)))
structure SaysET (fx : List Fx) (fn : List He.DefD) (tf : List He.Defn) (ex : PySem.W.Frag → Bool) (xs : List XD) (pd : List PDef) (ts : List TabX) (w : World) (h : Heap) (K : PySem.W.Frag) : Prop extends SaysE fx fn tf ex xs pd h K where
  dics : dicsOf ts K = dicsV ts w
theorem SaysET.tab {fx : List Fx} {fn : List He.DefD} {tf : List He.Defn} {ex : PySem.W.Frag → Bool} {xs : List XD} {pd : List PDef} {ts : List TabX} {w : World} {h : Heap} {K : PySem.W.Frag} {mg : Str → Option Value} (c : SaysET fx fn tf ex xs pd ts w h K) (i : Nat) {t : TabX} (hg : mg t.1 = some (.ref (He.ga K t.1))) (ht : ts[i]? = some t := by rfl) : WDic K w mg t.1 t.2 := by
  have e2 := congrArg (fun l => l[i]?) c.dics
  unfold dicsOf dicsV at e2
  rw [List.getElem?_map, List.getElem?_map, ht] at e2
  have e3 : (match dicI K (He.ga K t.1) t.2 with
    | true => He.dicW K (He.ga K t.1)
    | false => none) = some (He.keysIn w.params (t.2.map (·.1))) := Option.some.inj e2
  have hv : dicI K (He.ga K t.1) t.2 = true := by
    cases q : dicI K (He.ga K t.1) t.2 with
    | true => rfl
    | false => rw [q] at e3; cases e3
  rw [hv] at e3
  obtain ⟨es, n, kd, hk⟩ := dicW_keys e3
  exact ⟨_, es, n, hg, kd, fun z => wfor_of kd hk hv z⟩
end Dl

namespace K04
open PySem L2 Dl
open PyProof.Rows
def top (i : Nat) : Stmt := PySem.Challenge.pw_honestbars_k04_bounds_told.main.body.getD i (.Pass ⟨0, 0, 0, 0⟩)
abbrev s_is_integer : Stmt := top 13
abbrev s_is_number : Stmt := top 14
abbrev s_inner_works : Stmt := top 15
abbrev s_inner_pairs : Stmt := top 16
abbrev s_require_usable : Stmt := top 18
abbrev s_all_pairs : Stmt := top 19
abbrev s_works_along : Stmt := top 20
abbrev s_put_inner : Stmt := top 21
abbrev s_put_along : Stmt := top 22
abbrev s_loops_of : Stmt := top 23
abbrev s_counted_along : Stmt := top 24
abbrev s_bounds_of : Stmt := top 25
abbrev s_with_told : Stmt := top 26
abbrev s_told_first : Stmt := top 27
abbrev s_told_last : Stmt := top 28
abbrev s_with_bounds : Stmt := top 29
abbrev s_is_path_of : Stmt := top 30
abbrev s_told_at : Stmt := top 31
abbrev s_law_feed : Stmt := top 33
abbrev s_law_draw : Stmt := top 34
abbrev s_law_subs : Stmt := top 35
abbrev s_law_all : Stmt := top 36
abbrev s_law_put : Stmt := top 37
abbrev s_law_fewest : Stmt := top 38
abbrev s_law_bounds : Stmt := top 39
abbrev s_law_free_work : Stmt := top 40
abbrev s_law_work : Stmt := top 41
abbrev s_law_first : Stmt := top 42
abbrev s_law_second : Stmt := top 43
abbrev s_law_heard : Stmt := top 44
abbrev s_law_strays_in : Stmt := top 45
abbrev s_law_loops : Stmt := top 46
abbrev s_law_told : Stmt := top 47
abbrev s_law_right : Stmt := top 48
abbrev s_law_strays_right : Stmt := top 49
abbrev s_law : Stmt := top 50
def d_is_integer_ : He.DefD := ⟨("is_integer", none), "is_integer", "is_integer", defArgs s_is_integer, defBody s_is_integer, defScope s_is_integer, [], []⟩
def d_is_number_ : He.DefD := ⟨("is_number", none), "is_number", "is_number", defArgs s_is_number, defBody s_is_number, defScope s_is_number, [], []⟩
def d_inner_works_ : He.DefD := ⟨("inner_works", none), "inner_works", "inner_works", defArgs s_inner_works, defBody s_inner_works, defScope s_inner_works, [], []⟩
def d_inner_pairs_ : He.DefD := ⟨("inner_pairs", none), "inner_pairs", "inner_pairs", defArgs s_inner_pairs, defBody s_inner_pairs, defScope s_inner_pairs, [], []⟩
def d_require_usable_ : He.DefD := ⟨("require_usable", none), "require_usable", "require_usable", defArgs s_require_usable, defBody s_require_usable, defScope s_require_usable, [], []⟩
def d_all_pairs_ : He.DefD := ⟨("all_pairs", none), "all_pairs", "all_pairs", defArgs s_all_pairs, defBody s_all_pairs, defScope s_all_pairs, [], []⟩
def d_works_along_ : He.DefD := ⟨("works_along", none), "works_along", "works_along", defArgs s_works_along, defBody s_works_along, defScope s_works_along, [], []⟩
def d_put_inner_ : He.DefD := ⟨("put_inner", none), "put_inner", "put_inner", defArgs s_put_inner, defBody s_put_inner, defScope s_put_inner, [], []⟩
def d_put_along_ : He.DefD := ⟨("put_along", none), "put_along", "put_along", defArgs s_put_along, defBody s_put_along, defScope s_put_along, [], []⟩
def d_loops_of_ : He.DefD := ⟨("loops_of", none), "loops_of", "loops_of", defArgs s_loops_of, defBody s_loops_of, defScope s_loops_of, [], []⟩
def d_counted_along_ : He.DefD := ⟨("counted_along", none), "counted_along", "counted_along", defArgs s_counted_along, defBody s_counted_along, defScope s_counted_along, [], []⟩
def d_bounds_of_ : He.DefD := ⟨("bounds_of", none), "bounds_of", "bounds_of", defArgs s_bounds_of, defBody s_bounds_of, defScope s_bounds_of, [], []⟩
def d_with_told_ : He.DefD := ⟨("with_told", none), "with_told", "with_told", defArgs s_with_told, defBody s_with_told, defScope s_with_told, [], []⟩
def d_told_first_ : He.DefD := ⟨("told_first", none), "told_first", "told_first", defArgs s_told_first, defBody s_told_first, defScope s_told_first, [], []⟩
def d_told_last_ : He.DefD := ⟨("told_last", none), "told_last", "told_last", defArgs s_told_last, defBody s_told_last, defScope s_told_last, [], []⟩
def d_with_bounds_ : He.DefD := ⟨("with_bounds", none), "with_bounds", "with_bounds", defArgs s_with_bounds, defBody s_with_bounds, defScope s_with_bounds, [], []⟩
def d_is_path_of_ : He.DefD := ⟨("is_path_of", none), "is_path_of", "is_path_of", defArgs s_is_path_of, defBody s_is_path_of, defScope s_is_path_of, [], []⟩
def d_told_at_ : He.DefD := ⟨("told_at", none), "told_at", "told_at", defArgs s_told_at, defBody s_told_at, defScope s_told_at, [], []⟩
def d_law_feed_ : He.DefD := ⟨("_law_feed", none), "_law_feed", "_law_feed", defArgs s_law_feed, defBody s_law_feed, defScope s_law_feed, [], []⟩
def d_law_draw_ : He.DefD := ⟨("_law_draw", none), "_law_draw", "_law_draw", defArgs s_law_draw, defBody s_law_draw, defScope s_law_draw, [], []⟩
def d_law_subs_ : He.DefD := ⟨("_law_subs", none), "_law_subs", "_law_subs", defArgs s_law_subs, defBody s_law_subs, defScope s_law_subs, [], []⟩
def d_law_all_ : He.DefD := ⟨("_law_all", none), "_law_all", "_law_all", defArgs s_law_all, defBody s_law_all, defScope s_law_all, [], []⟩
def d_law_put_ : He.DefD := ⟨("_law_put", none), "_law_put", "_law_put", defArgs s_law_put, defBody s_law_put, defScope s_law_put, [], []⟩
def d_law_fewest_ : He.DefD := ⟨("_law_fewest", none), "_law_fewest", "_law_fewest", defArgs s_law_fewest, defBody s_law_fewest, defScope s_law_fewest, [], []⟩
def d_law_bounds_ : He.DefD := ⟨("_law_bounds", none), "_law_bounds", "_law_bounds", defArgs s_law_bounds, defBody s_law_bounds, defScope s_law_bounds, [], []⟩
def d_law_free_work_ : He.DefD := ⟨("_law_free_work", none), "_law_free_work", "_law_free_work", defArgs s_law_free_work, defBody s_law_free_work, defScope s_law_free_work, [], []⟩
def d_law_work_ : He.DefD := ⟨("_law_work", none), "_law_work", "_law_work", defArgs s_law_work, defBody s_law_work, defScope s_law_work, [], []⟩
def d_law_first_ : He.DefD := ⟨("_law_first", none), "_law_first", "_law_first", defArgs s_law_first, defBody s_law_first, defScope s_law_first, [], []⟩
def d_law_second_ : He.DefD := ⟨("_law_second", none), "_law_second", "_law_second", defArgs s_law_second, defBody s_law_second, defScope s_law_second, [], []⟩
def d_law_heard_ : He.DefD := ⟨("_law_heard", none), "_law_heard", "_law_heard", defArgs s_law_heard, defBody s_law_heard, defScope s_law_heard, [], []⟩
def d_law_strays_in_ : He.DefD := ⟨("_law_strays_in", none), "_law_strays_in", "_law_strays_in", defArgs s_law_strays_in, defBody s_law_strays_in, defScope s_law_strays_in, [], []⟩
def d_law_loops_ : He.DefD := ⟨("_law_loops", none), "_law_loops", "_law_loops", defArgs s_law_loops, defBody s_law_loops, defScope s_law_loops, [], []⟩
def d_law_told_ : He.DefD := ⟨("_law_told", none), "_law_told", "_law_told", defArgs s_law_told, defBody s_law_told, defScope s_law_told, [], []⟩
def d_law_right_ : He.DefD := ⟨("_law_right", none), "_law_right", "_law_right", defArgs s_law_right, defBody s_law_right, defScope s_law_right, [], []⟩
def d_law_strays_right_ : He.DefD := ⟨("_law_strays_right", none), "_law_strays_right", "_law_strays_right", defArgs s_law_strays_right, defBody s_law_strays_right, defScope s_law_strays_right, [], []⟩
def d_law_ : He.DefD := ⟨("law", none), "law", "law", defArgs s_law, defBody s_law, defScope s_law, [], []⟩
def fn : List He.DefD := [d_is_integer_, d_is_number_, d_inner_works_, d_inner_pairs_, d_require_usable_, d_all_pairs_, d_works_along_, d_put_inner_, d_put_along_, d_loops_of_, d_counted_along_, d_bounds_of_, d_with_told_, d_told_first_, d_told_last_, d_with_bounds_, d_is_path_of_, d_told_at_, d_law_feed_, d_law_draw_, d_law_subs_, d_law_all_, d_law_put_, d_law_fewest_, d_law_bounds_, d_law_free_work_, d_law_work_, d_law_first_, d_law_second_, d_law_heard_, d_law_strays_in_, d_law_loops_, d_law_told_, d_law_right_, d_law_strays_right_, d_law_]
def pd : List PDef := []
def fx : List Fx := ([.glo "is_integer", .glo "is_number", .glo "inner_works", .glo "inner_pairs", .glo "require_usable", .glo "all_pairs", .glo "works_along", .glo "put_inner", .glo "put_along", .glo "loops_of", .glo "counted_along", .glo "bounds_of", .glo "with_told", .glo "told_first", .glo "told_last", .glo "with_bounds", .glo "is_path_of", .glo "told_at", .glo "_law_feed", .glo "_law_draw", .glo "_law_subs", .glo "_law_all", .glo "_law_put", .glo "_law_fewest", .glo "_law_bounds", .glo "_law_free_work", .glo "_law_work", .glo "_law_first", .glo "_law_second", .glo "_law_heard"] : List Fx) ++ ([.glo "_law_strays_in", .glo "_law_loops", .glo "_law_told", .glo "_law_right", .glo "_law_strays_right", .glo "law", .free "all", .free "bool", .free "dict", .free "enumerate", .free "int", .free "isinstance", .free "len", .free "list", .free "min", .free "range", .free "repr", .free "sum", .free "tuple", .free "zip", .dat "COUNTED" (.tup [(.str "some"), (.str "loop")]), .glo "BarError", .glo "InvalidPaper", .glo "InvalidRow", .glo "InvalidText", .glo "LiveError", .glo "NotNext", .glo "NotUsable", .glo "PaperError", .glo "TextError"] : List Fx) ++ ([.glo "WorkError"] : List Fx)
abbrev Rw : PySem.W.OpenRow := PySem.W.OpenLaw.row PySem.Challenge.rw_honestbars_k04_bounds_told
abbrev CTh : CTab := [("BarError", ["BarError"], []), ("PaperError", ["PaperError", "BarError"], []), ("WorkError", ["WorkError", "BarError"], []), ("LiveError", ["LiveError", "BarError"], []), ("TextError", ["TextError", "BarError"], []), ("InvalidPaper", ["InvalidPaper", "PaperError", "BarError"], ["word", "at"]), ("NotUsable", ["NotUsable", "WorkError", "BarError"], ["word", "at"]), ("NotNext", ["NotNext", "WorkError", "BarError"], ["sign", "at"]), ("InvalidText", ["InvalidText", "TextError", "BarError"], ["line", "field"]), ("InvalidRow", ["InvalidRow", "TextError", "BarError"], ["row"])]
abbrev i_NotUsable : Stmt := inClass (top 7) 0
def xd_NotUsable : XD := ⟨"NotUsable", "NotUsable.__init__", defArgs i_NotUsable, defBody i_NotUsable, defScope i_NotUsable, ["word", "at"]⟩
def xs : List XD := [xd_NotUsable]
abbrev fileS : Str := (PySem.Challenge.rw_honestbars_k04_bounds_told).prog.main.file
def ex (K : PySem.W.Frag) : Bool := exTB K CTh && (xinB K fileS xd_NotUsable)
def tq : List (He.Defn × Str) := [(("_law_strays_right", none), "_law_strays_right.<locals>.<lambda>")]
abbrev hk : PySem.W.Hook := hookE 4 fx fn (tq.map (·.1)) ex xs pd
def ob (s : PySem.W.SharedT) : AlE := obsEG 4 fx fn (tq.map (·.1)) ex xs pd (HandSHeadRun.getT s)
theorem ob_eq (s : PySem.W.SharedT) : ob s = hk.obs s.abs := obsEG_eq (HandSHeadRun.getT_eq s)
abbrev loose : List Str := (["COUNTED", "is_integer", "is_number", "inner_works", "inner_pairs", "require_usable", "all_pairs", "works_along", "put_inner", "put_along", "loops_of", "counted_along", "bounds_of", "with_told", "told_first", "told_last", "with_bounds", "is_path_of", "told_at", "_law_feed", "_law_draw", "_law_subs", "_law_all", "_law_put", "_law_fewest", "_law_bounds", "_law_free_work", "_law_work", "_law_first", "_law_second"] : List Str) ++ (["_law_heard", "_law_strays_in", "_law_loops", "_law_told", "_law_right", "_law_strays_right", "BarError", "PaperError", "WorkError", "LiveError", "TextError", "InvalidPaper", "NotUsable", "NotNext", "InvalidText", "InvalidRow"] : List Str)
theorem run : ∀ w : World, HandSHeadRun.RunEq Rw (PySem.W.view Rw.prog [50]) hk ob 8000 loose w :=
  PySem.W.byRow2 "special-get-raises" (P := fun w => HandSHeadRun.RunEq Rw (PySem.W.view Rw.prog [50]) hk ob 8000 loose w) (fun w => by intro os; kernel_rfl) (fun w => by intro os; kernel_rfl)
open PySem PySem.W PySem.Calls PyProof.Rows in
theorem head_of (F : ∀ (w : World) (mg : Str → Option Value) (fa : Addr) (h : Heap) (K : PySem.W.Frag), K.In h → SaysE fx fn (tq.map (·.1)) ex xs pd h K → h.Ns mainGlobals mg → mg ("law" : Str) = some (.ref fa) →
      ∃ (K : PySem.W.Frag) (fd : FuncData) (sp : DSp) (T : List (Addr × Str)) (cs : List (Addr × Addr)), K.In h ∧ (∀ (s : Shared) (u : Value), BindsTo s fd ⟨[u], []⟩ [("_law_script", u)]) ∧
        (∀ p ∈ T, h.get? p.1 = some { cls := .none, data := .fields #[] }) ∧ (∀ p ∈ T, K.lookup p.1 = none) ∧ (∀ p ∈ cs, p.2 ∈ T.map (·.1)) ∧ (∀ p ∈ T, ∃ c, (c, p.1) ∈ cs) ∧ (∀ p ∈ cs, PySem.W.CodeHd h p.1 p.2) ∧
        (∀ ns : List Int, ns.length ≤ 63 → sp [.scr ns] (tabG T) (fun d _ => d = .bl true) noX) ∧
        ∀ base : Heap, K.In base → base.Ns mainGlobals mg → (∀ p ∈ cs, LamX.TabB base mg p.1 p.2) → DFn (PySem.Challenge.rw_honestbars_k04_bounds_told).prog w K mg base 44 fa fd ["_law_script"] sp) : PySem.Challenge.rw_honestbars_k04_bounds_told.Holds := by
  w_on; o_law
  refine HandSHeadRun.head_any (r := OpenLaw.row PySem.Challenge.rw_honestbars_k04_bounds_told) (q := view (OpenLaw.row PySem.Challenge.rw_honestbars_k04_bounds_told).prog [50]) (H := K04.hk) (ob := K04.ob) (M := 8000) (loose := K04.loose) (d := HandSHeadRun.topDef (OpenLaw.row PySem.Challenge.rw_honestbars_k04_bounds_told).prog 50) (kwd := []) K04.ob_eq
    (by kernel_rfl) (fun s => by kernel_rfl) K04.run (by kernel_rfl) (by kernel_rfl) (by kernel_rfl) (by rfl) (by first | assumption | decide +kernel) (by decide +kernel) ⟨rfl, rfl, rfl, rfl, rfl, by decide +kernel⟩ ?hw ?hc
  case hw => w_witness2
  case hc =>
    refine Dl.d_walkT (l := PySem.Challenge.rw_honestbars_k04_bounds_told) (n := 63) (k := 44) (x := "_law_script") rfl (by decide) (by kernel_rfl) ⟨rfl, by decide, by decide⟩ rfl ?F
    intro w mg fa h Y G hmg0
    obtain ⟨K, KX, c⟩ := Y
    have hmg : mg ("law" : PySem.Str) = some (.ref fa) := by
      have e : (HandSHeadRun.topDef (OpenLaw.row PySem.Challenge.rw_honestbars_k04_bounds_told).prog 50).name = ("law" : PySem.Str) := by kernel_rfl
      rw [← e]
      exact hmg0
    exact F w mg fa h K KX c G hmg
end K04

namespace Dl
open PySem L2 PyProof.Rows LamX
section
variable {X : Cx} {pins : List (Addr × Obj)} {σ : L2.St} {H : Hp} {s : Shared}
def Within (X : Cx) (pins : List (Addr × Obj)) (σ : L2.St) (B : Cx) : Prop := ∀ (pn : List (Addr × Obj)) (τ : L2.St) (J : Hp) (t : Shared), Inv B pn τ J t → Inv X pins σ J t
theorem lcw {Q : VK} {elt tg iter : Expr} {ifs : List Expr} {scope : Scope} {own : List (Str × Nat)} {pos : Pos} {wi : TI} {g : TG} {tt : TT} {te : TE} (calm : X.calm = true) (nod : X.N.Nodup) (I0 : Inv X pins σ H s) (it0 : PI X tg iter wi) (bo : BlkOk X.N X.env.scope scope own)
    (pgs : ∀ (s1 : Shared) (H1 : Hp) (C : Addr) (cl : List (Str × Addr)) (fp : List Addr), PG (X.blk s1 H1 scope (compEnvC scope cl C X.env) fp) tg g)
    (pts : ∀ (s1 : Shared) (H1 : Hp) (C : Addr) (cl : List (Str × Addr)) (fp : List Addr), Within X pins σ (X.blk s1 H1 scope (compEnvC scope cl C X.env) fp) → PTs (X.blk s1 H1 scope (compEnvC scope cl C X.env) fp) ifs tt)
    (pes : ∀ (s1 : Shared) (H1 : Hp) (C : Addr) (cl : List (Str × Addr)) (fp : List Addr), PE (X.blk s1 H1 scope (compEnvC scope cl C X.env) fp) elt te)
    (h : tLc wi g tt te (own.map (·.2)) σ H Q) (fold : ∀ x, foldedSetIterable iter X.env x = pure x := by intro _; rfl) :
    wpAny (model X.prog X.w) X.A (eval (.ListComp elt [⟨tg, iter, ifs, 0⟩] scope pos) X.env) (EP X pins σ Q) X.xe s := by
  rw [eval_ListComp]
  have cells : ∀ q ∈ scope.names, q.2 = .free → ∃ c, X.env.cells.lookup q.1 = some c := fun q hq z => (bo.free q hq z).elim (fun k => I0.ok.has _ (.inl k)) fun k => I0.ok.has _ (.inr k)
  refine wpAny_comprehension_free (use := none) rfl fold (closure_ok cells) bo.kind (fun q hq z => (bo.uniq q hq).trans (by rw [z])) (thn (it0.run pins s σ H _ I0 h) fun v0 t1 h1 => thn h1 fun v1 t2 h2 => ?_)
  obtain ⟨ia, fp, tn, J, H2, rfl, I2, TT, z2, f2, more⟩ := h2
  refine wpAny_newObj_type (newEnv_comp ?_) (by show 0 ≤ sizeLine; decide)
  generalize eD : t2.heap.objs.size = L
  have nL : H2 L = none := I2.hok.fresh (Nat.le_of_eq eD)
  obtain ⟨W, ⟨m0, w0⟩, turns⟩ := more L nL
  generalize e3 : ({ t2 with heap := t2.heap.push { cls := .type "list", data := .seq ([] : List Value).toArray } } : Shared) = t3
  have I3 : Inv X pins σ (upd H2 L (.lst [])) t3 := by
    subst e3
    refine I2.laid (t' := t2.toks) (fun b o z => Heap.get?_push_of_some _ z) (Nat.le_of_eq eD) ⟨Nat.zero_le _, [], 0, .nil, ?_⟩
    subst eD
    exact Heap.get?_push_size _ rfl
  have p3 : t3.heap = t2.heap.push { cls := .type "list", data := .seq ([] : List Value).toArray } := by subst e3; rfl
  have lo : ∀ b ∈ fp, b < t2.heap.objs.size := fun b hb => (TT.obj _ _ z2 b hb).elim fun o z => Heap.lt_size z.1
  have f3 : ∀ b ∈ fp, FpOk X pins (upd H2 L (.lst [])) b ∧ b < t3.heap.objs.size := fun b hb => by
    have lb := lo b hb
    have nb : b ≠ L := by subst eD; exact Nat.ne_of_lt lb
    exact ⟨⟨by rw [upd_ne nb]; exact (f2 b hb).1, (f2 b hb).2⟩, by rw [p3, Heap.size_push]; exact Nat.lt_succ_of_lt lb⟩
  have z3 : tn 0 t3.heap := TT.keep _ _ _ z2 fun b _ o z => by rw [p3]; exact Heap.get?_push_of_some _ z
  have I4 := block_start I3 bo nod f3
  generalize eC : compEnvC scope (cellsFrom (t3.heap.objs.size + 1) scope.names (cloFrom X.env.cells scope.names [])) t3.heap.objs.size X.env = ce at I4
  generalize eH : upd H2 L (.lst []) = H3 at I3 I4 w0 f3
  have back : Within X pins σ (X.blk t3 H3 scope ce fp) := fun pn τ H' t I' => I3.call' (ch := fp) I'.os I'.base I'.hok I'.bare fun b hb =>
    ⟨(f3 b hb).1.2.2.2.1, (f3 b hb).1.2.1, (f3 b hb).1.2.2.2.2.1, (f3 b hb).1.2.2.2.2.2⟩
  have hpg : PG (X.blk t3 H3 scope ce fp) tg g := by subst eC; exact pgs _ _ _ _ _
  have hpt : PTs (X.blk t3 H3 scope ce fp) ifs tt := by subst eC; exact pts _ _ _ _ _ back
  have hpe : PE (X.blk t3 H3 scope ce fp) elt te := by subst eC; exact pes _ _ _ _ _
  have locC : ce.locals = t3.heap.objs.size := by subst eC; rfl
  have nfp : ∀ b ∈ fp, H3 b = none := fun b hb => (f3 b hb).1.1
  have keepT : ∀ {pn : List (Addr × Obj)} {τ : L2.St} {J' : Hp} {t : Shared}, Inv (X.blk t3 H3 scope ce fp) pn τ J' t → (∀ b ∈ fp, J' b = none) → pn = [] → ∀ b ∈ fp, FpOk (X.blk t3 H3 scope ce fp) [] J' b := fun I' hn _ b hb =>
    ⟨hn b hb, (I'.ok.exf b hb).1, I'.ok.exfs b hb, .inl hb, fun x c q => (I'.ok.exf b hb).2 x c q, fun p hp => (nomatch (show p ∈ ([] : List (Addr × Obj)) from hp))⟩
  generalize e4 : ({ t3 with heap := pushCells (t3.heap.push { cls := .type "dict", data := .dict #[] }) scope.names } : Shared) = t4 at I4
  have z4 : tn 0 t4.heap := TT.keep _ _ _ z3 fun b _ o q => by subst e4; exact pushCells_keeps _ _ _ _ (Heap.get?_push_of_some _ q)
  have loop : codeAny (model X.prog X.w) X.A (.compLoop (.ListComp elt [⟨tg, iter, ifs, 0⟩] scope pos) 0 (.ref ia) (.ref L) ce) (compPost (model X.prog X.w) X.A X.xe none (EP X pins σ Q) (.ref L) t3.heap.objs.size) t4 := by
    refine compLoop_any (fun n t => ∃ k J', Inv (X.blk t3 H3 scope ce fp) [] (wipe σ (own.map (·.2))) J' t ∧ tn k t.heap ∧ (∀ b ∈ fp, J' b = none) ∧ W k n J') (fun n t5 ⟨k, H5, I5, z5, n5, w5⟩ => ?_) m0 ⟨0, H3, I4, z4, nfp, w0⟩
    rcases turns k n H5 w5 with ⟨stop, fin⟩ | ⟨go, Nx, hNx, step⟩
    · refine thnF (TT.done (X.blk t3 H3 scope ce fp) rfl rfl rfl calm k [] t5 _ H5 (fun _ _ => False) I5 (keepT I5 n5 rfl) z5 stop) fun r t6 ⟨hr, I6⟩ => ?_
      subst hr
      have I7 := back _ _ _ _ I6
      have nl : H5 ce.locals = none := I6.free
      obtain ⟨m, hm, _⟩ := I6.loc
      have hm : t6.heap.Ns ce.locals m := hm
      rw [locC] at hm nl
      obtain ⟨g0, g1, g2, g3, g4, g5⟩ := I3.fpOk (Nat.le_refl _) nl
      exact ⟨m, hm, fun h' sb => ⟨.ref L, H5, I7.turned (t' := t6.toks) (fun b o hb q => (sb.2 b hb).trans q) g0 g1 g3 g4 g5, rfl, fin⟩⟩
    · refine thnF (TT.item (X.blk t3 H3 scope ce fp) rfl rfl rfl calm k [] t5 _ H5 (fun _ _ => False) I5 (keepT I5 n5 rfl) z5 go) fun r t6 ⟨u, hr, h6⟩ => ?_
      subst hr
      refine thnF h6 fun _ t7 ⟨x, H7, I7, r7, y7, z7, n7⟩ => ?_
      refine thnF (hpg.run _ t7 _ H7 x u _ (I7.pinned (keepT I7 n7 rfl) (TT.obj _ _ z7)) r7 (step x H7 y7)) fun _ t8 ⟨τ8, H8, I8, eq8, q8⟩ => ?_
      refine thnF (hpt.run _ t8 τ8 H8 _ I8 q8) fun b t9 ⟨H9, I9, q9⟩ => ?_
      have next : ∀ (t : Shared) (J' : Hp), Inv (X.blk t3 H3 scope ce fp) ([] ++ pinsAt fp t7.heap) τ8 J' t → Nx J' → ∃ m, m < n ∧ ∃ k J', Inv (X.blk t3 H3 scope ce fp) [] (wipe σ (own.map (·.2))) J' t ∧ tn k t.heap ∧ (∀ b ∈ fp, J' b = none) ∧ W k m J' := fun t J' I' nx => by
        obtain ⟨m, lt, wm⟩ := hNx J' nx
        have held : ∀ b ∈ fp, ∀ o, t7.heap.get? b = some o → t.heap.get? b = some o ∧ J' b = none := fun b hb o q => by
          have pn := I'.pin (b, o) (List.mem_append_right _ (List.mem_append_right _ (mem_pinsAt hb q)))
          exact ⟨pn.1, pn.2.1⟩
        have len : (wipe σ (own.map (·.2))).length = τ8.length := by rw [← eq8]; exact wipe_length _ _
        refine ⟨m, lt, k + 1, J', (I'.unpinned (pins := [])).weak len (fun j v q => ?_), TT.keep _ _ _ z7 fun b hb o q => (held b hb o q).1, fun b hb => ?_, wm⟩
        · rw [← eq8] at q
          exact (wipe_some q).1
        · obtain ⟨o, q, _⟩ := TT.obj _ _ z7 b hb
          exact (held b hb o q).2
      cases b with
      | false => exact next _ _ I9 (by simpa using q9)
      | true =>
        have q9 : te τ8 H9 fun y H4 => ∃ acc, H4 L = some (.lst acc) ∧ acc.length < sizeLine ∧ Nx (upd H4 L (.lst (acc ++ [y]))) := by simpa using q9
        refine thnF (hpe.run _ t9 τ8 H9 _ I9 q9) fun _ t10 ⟨y, H10, I10, r10, acc, aL, al, nx⟩ => ?_
        exact app_ok (X := X.blk t3 H3 scope ce fp) I10 aL al r10 fun t11 I11 => next _ _ I11 nx
  subst e4 eC
  exact codeAny_compStart_list loop (TT.self X.A 0 _ _ _ z4 loop)
end
def tHearW (K : PySem.W.Frag) (σ : L2.St) (ρX : DSt) (rH : Act → DTS) (n : Nat) (Ls : List LamI) (te : DTE) : TE := fun τ J Qv => ∃ ρ' G' Q', DRel K τ J ρ' G' ∧
  te ρ' G' (fun d G2 => ∃ l ∈ Ls, ∃ n0 H0, d = .fn l.q l.φ n0 H0 ∧ ∀ n1 H1, rH ⟨l.q, l.φ, n1, H1, fun E' G' Q' => l.t (fun x _ G2 => E' x G2) ρX G' Q'⟩ { nx := fun _ G' => Q' .non G', rt := Q' } (some (.fn l.q l.φ n1 H1) :: List.replicate (n - 1) none) G2) ∧
  (∀ v d J2 G2, Ext G' J G2 J2 → DRel K τ J2 ρ' G2 → RepV K G2 J2 d v → Q' d G2 → Qv v J2) ∧ DRel K σ J ρX G'
section
variable {X : Cx} {pins : List (Addr × Obj)} {σ : L2.St} {ρX : DSt} {k n : Nat} {x : Str} {rH : Act → DTS} {Ls : List LamI} {e : Expr} {te : DTE} {p pos : Pos}
theorem pe_hearW {sb : Shared} {Hb : Hp} {scope : Scope} {ce : Env} {fp : List Addr} (C : Hearer X.prog X.w X.K X.mg X.base k x rH n) (hL : ∀ l ∈ Ls, LamOf X k l) (hr : Room (k + 2) X.A) (hgd : X.A.guards = some [])
    (inX : Within X pins σ (X.blk sb Hb scope ce fp)) (hg : Gl (X.blk sb Hb scope ce fp) x) (he : DE (X.blk sb Hb scope ce fp) e te) (hdb : (x == ("__debug__" : Str)) = false := by decide)
    (hst : starEach [e] ce = (false, eval e ce) :: starEach [] ce := by rfl) (hpl : (backTo pos (starEach [] ce)).any (·.1) = false := by rfl) : PE (X.blk sb Hb scope ce fp) (.Call (.Name x p) [e] [] pos) (tHearW X.K σ ρX rH n Ls te) := by
  obtain ⟨g, pg, bg, sg, Ng, a, dV, kV, doc, pm, cdv, ct, oc, an, od, osl, hm, hk, lk, hcg, hb, Sg, hn, hNg, hva, hd1, hd2, hG⟩ := C.ex
  refine ⟨fun pn s τ H Qv I hh => ?_⟩
  obtain ⟨ρ, G, Q, r, h, kq, rX⟩ := hh
  refine wpAny_Call_Name_kw (ld_glob I hg hm ?_ hdb)
  have ha : DA (X.blk sb Hb scope ce fp) [e] (dCons te dNil) := da_cons he da_nil hst
  refine PySem.W.callWith_K (h₀ := X.base) I.ok.mod.kin hk ?_ hst hpl
  let PP : D → GH → Prop := fun d G1 => ∃ l ∈ Ls, ∃ n0 H0, d = .fn l.q l.φ n0 H0 ∧
    ∀ n1 H1, rH ⟨l.q, l.φ, n1, H1, fun E' G' Q' => l.t (fun x _ G2 => E' x G2) ρX G' Q'⟩ { nx := fun _ G' => Q .non G', rt := Q } (some (.fn l.q l.φ n1 H1) :: List.replicate (n - 1) none) G1
  refine thn (ha.run pos pn s τ H (fun vs H1 => ∃ ds G1, Ext G H G1 H1 ∧ DRel X.K τ H1 ρ G1 ∧ RepL X.K G1 H1 ds vs ∧ match ds with | [d] => PP d G1 | _ => False) I
    ⟨ρ, G, fun ds G1 => match ds with | [d] => PP d G1 | _ => False, r, h, fun vs ds H1 G1 e1 r1 v1 h1 => ⟨ds, G1, e1, r1, v1, h1⟩⟩) ?_
  rintro us s1 ⟨xs, H1, I1, rv, ds, G1, e1, r1, v1, h1⟩
  match ds, h1 with
  | [d], h1 =>
    obtain ⟨l, hl, n0, H0, rfl, hrun⟩ := h1
    obtain ⟨params, body, sc2, lq, lφ, LS, hbind, hbody⟩ := hL l hl
    have IX := inX _ _ _ _ I1
    have rX1 : DRel X.K σ H1 ρX G1 := rX.ext e1 r1.gok
    unfold RepL at v1
    obtain ⟨v, ys, rfl, v1, v2⟩ := v1
    unfold RepL at v2
    subst v2
    unfold RepV at v1
    obtain ⟨f, c', rfl, gf, hf, gc, hc, _⟩ := v1
    cases rv with
    | @cons _ u _ ur ru rr =>
    cases rr
    obtain rfl : u = Value.ref f := ru
    refine ⟨I1.kIn, ?_⟩
    have rep : RepV X.K G1 H1 (.fn l.q l.φ (fun b => G1 b = none) H1) (.ref f) := by
      unfold RepV
      exact ⟨f, c', rfl, gf, hf, gc, hc, fun b o z => ⟨⟨o, z⟩, fun y => ⟨y, z⟩⟩⟩
    have hne : 0 < Ng.length := by
      rcases Nat.eq_zero_or_pos Ng.length with z | z
      · rw [List.length_eq_zero_iff.mp z] at hNg; cases hNg
      · exact z
    have est : startD Ng.length [(.fn l.q l.φ (fun b => G1 b = none) H1 : D)] = some (.fn l.q l.φ (fun b => G1 b = none) H1) :: List.replicate (n - 1) none := by
      unfold startD
      rw [hn]
      rfl
    have rc : codeAny (model X.prog X.w) X.A (.call (.ref g) ⟨[.ref f], []⟩) (CR CX0 X.stack X.prog X.w H1 s1 Qv E0) s1 := by
      refine run_ofS (N := Ng) (ps := [a]) (us := [.ref f]) (vs := [.ref f]) lk hcg Sg (k := k + 1) hr IX.env0 (hb s1 [.ref f] I1.kIn rfl) (.cons rfl .nil) rfl fun hr' => ?_
      have gdd : (X.A.deeper (envOfC x sg s1.heap.objs.size g cdv)).guards = some [] := hgd
      have B := hG X.A X.stack s1 H1 ⟨l.q, l.φ, fun b => G1 b = none, H1, fun E' G' Q' => l.t (fun x _ G2 => E' x G2) ρX G' Q'⟩ hr' gdd (fun W pn xe p1 p2 tk => by
        rw [lq, lφ]
        exact act_of IX rX1 LS hbind hr' hgd tk hbody hNg hva hd1 hd2)
      refine ⟨_, B.nox, startD Ng.length [.fn l.q l.φ (fun b => G1 b = none) H1], G1, { nx := fun _ G' => Q .non G', rt := Q }, start_rel (repL_one rep) r1.gok, ?_, ?_, ?_, ?_, ?_⟩
      · rw [est]
        exact hrun _ _
      · exact fun σ' ρ' H' G' e' r' h' => kq .non .non H' G' (e1.trans e') (r1.ext e' r'.gok) (by unfold RepV; rfl) h'
      · exact fun v d H' G' e' g' v' h' => kq v d H' G' (e1.trans e') (r1.ext e' g') v' h'
      · exact fun _ _ _ _ _ _ z => z.elim
      · exact fun _ _ _ _ _ _ z => z.elim
    refine wpAny_call (codeAny_mono rc fun r2 s' hq => ?_)
    cases r2 with
    | error e => exact (show False from hq).elim
    | ok fl =>
      cases fl with
      | ret u => exact I1.after hq
      | next => exact False.elim hq
      | brk => exact False.elim hq
      | cont => exact False.elim hq
end
theorem sl_set {d : D} : ∀ {ρ : DSt} {i : Nat}, i < ρ.length → sl (ρ.set i (some d)) i = some d
  | _ :: _, 0, _ => rfl
  | _ :: r, i + 1, h => sl_set (ρ := r) (Nat.lt_of_succ_lt_succ h)
def dAsk1 (rH : Act → DTS) (n : Nat) (Ls : List LamI) (ρX : DSt) (d : D) (G : GH) (Q : DK) : Prop := ∃ l ∈ Ls, ∃ n0 H0, d = .fn l.q l.φ n0 H0 ∧
  ∀ n1 H1, rH ⟨l.q, l.φ, n1, H1, fun E' G' Q' => l.t (fun x _ G2 => E' x G2) ρX G' Q'⟩ { nx := fun _ G' => Q .non G', rt := Q } (some (.fn l.q l.φ n1 H1) :: List.replicate (n - 1) none) G
def dAsksGo (ok : GH → Prop) (rH : Act → DTS) (n : Nat) (Ls : List LamI) (r : DR2) (tc : DTE) (iy : Nat) (vs : List Nat) (ρX : DSt) (p : Addr) : List D → GH → DK → Prop
  | [], G, Q => ok G ∧ Q (.ref p) G
  | d :: ds, G, Q => ok G ∧ dAsk1 rH n Ls ρX d G fun v G2 => tc ((wipeD ρX vs).set iy (some d)) G2 fun c G3 => r v c G3 fun b G4 => b = .bl false ∧ dAsksGo ok rH n Ls r tc iy vs ρX p ds G4 Q
def dAsks (wi : DTI) (rH : Act → DTS) (n : Nat) (Ls : List LamI) (r : DR2) (tc : DTE) (iy : Nat) (vs : List Nat) : DTE := fun ρ G Q => wi ρ G fun items ok G1 => ∀ p, G1 p = none → dAsksGo ok rH n Ls r tc iy vs ρ p items (updG G1 p (.lst [])) Q
section
variable {X : Cx} {k n iy : Nat} {x y : Str} {rH : Act → DTS} {Ls : List LamI} {tc : DTE} {r : DR2} {wi : DTI}
theorem de_asks {elt tg iter e e2 : Expr} {op : CmpOp} {scope : Scope} {own : List (Str × Nat)} {p pos1 pos2 pos : Pos} (C : Hearer X.prog X.w X.K X.mg X.base k x rH n) (hL : ∀ l ∈ Ls, LamOf X k l) (hr : Room (k + 2) X.A) (hgd : X.A.guards = some []) (calm : X.calm = true) (nod : X.N.Nodup)
    (hi : DI X tg iter wi) (bo : BlkOk X.N X.env.scope scope own) (iv : iy ∈ own.map (·.2)) (hy : X.N[iy]? = some y)
    (pgs : ∀ (s1 : Shared) (H1 : Hp) (C : Addr) (cl : List (Str × Addr)) (fp : List Addr), PG (X.blk s1 H1 scope (compEnvC scope cl C X.env) fp) tg ((Dl.CT.one iy).gV X.K))
    (glb : ∀ (s1 : Shared) (H1 : Hp) (C : Addr) (cl : List (Str × Addr)) (fp : List Addr), Gl (X.blk s1 H1 scope (compEnvC scope cl C X.env) fp) x)
    (he : ∀ (s1 : Shared) (H1 : Hp) (C : Addr) (cl : List (Str × Addr)) (fp : List Addr), DE (X.blk s1 H1 scope (compEnvC scope cl C X.env) fp) e (dVar iy))
    (h2 : ∀ (s1 : Shared) (H1 : Hp) (C : Addr) (cl : List (Str × Addr)) (fp : List Addr), DE (X.blk s1 H1 scope (compEnvC scope cl C X.env) fp) e2 tc)
    (ho : ∀ (s1 : Shared) (H1 : Hp) (C : Addr) (cl : List (Str × Addr)) (fp : List Addr), DOp (X.blk s1 H1 scope (compEnvC scope cl C X.env) fp) (compareOp op) r) (hm : behindInMarks op e2 = false)
    (hdb : (x == ("__debug__" : Str)) = false := by decide) (fold : ∀ x, foldedSetIterable iter X.env x = pure x := by intro _; rfl)
    (hst : ∀ ce, starEach [e] ce = (false, eval e ce) :: starEach [] ce := by intro _; rfl) (hpl : ∀ ce, (backTo pos1 (starEach [] ce)).any (·.1) = false := by intro _; rfl) :
    DE X (.ListComp elt [⟨tg, iter, [.Compare (.Call (.Name x p) [e] [] pos1) [op] [e2] pos2], 0⟩] scope pos) (dAsks wi rH n Ls r tc iy (own.map (·.2))) := by
  refine ⟨fun pins s σ H Qv I hh => ?_⟩
  obtain ⟨ρ, G, q, r0, h, kq⟩ := hh
  let ttA : TT := fun τ J Qb => ∃ (ρ' : DSt) (G' : GH) (d : D) (q' : GH → Prop), DRel X.K τ J ρ' G' ∧ sl ρ' iy = some d ∧ dAsk1 rH n Ls ρ d G' (fun v G2 => tc ρ' G2 fun c G3 => r v c G3 fun b G4 => b = .bl false ∧ q' G4) ∧ DRel X.K σ J ρ G' ∧
    (∀ J2 G2, Ext G' J G2 J2 → DRel X.K τ J2 ρ' G2 → q' G2 → Qb false J2)
  refine lcw (tt := ttA) (te := fun _ _ _ => False) calm nod I hi bo pgs (fun s1 H1 C1 cl fp inX => pts_one ?_) (fun _ _ _ _ _ => ⟨fun _ _ _ _ _ _ z => z.elim⟩) ?_ fold
  · refine (pt_cmpR (ho s1 H1 C1 cl fp) (pe_hearW (ρX := ρ) C hL hr hgd inX (glb s1 H1 C1 cl fp) (he s1 H1 C1 cl fp) hdb (hst _) (hpl _)) (h2 s1 H1 C1 cl fp) hm).imp fun τ J Qb ⟨ρ', G', d, q', r', hd, ha, rX, kk⟩ => ?_
    refine ⟨ρ', G', fun v G2 => tc ρ' G2 fun c G3 => r v c G3 fun b G4 => b = .bl false ∧ q' G4, r', (by unfold dVar; rw [hd]; exact ha), fun v dv J2 G2 e2 r2 v2 h2' => ?_, rX⟩
    refine ⟨ρ', G2, _, r2, h2', fun c dc J3 G3 e3 r3 v3 h3 => ?_⟩
    refine ⟨G3, dv, dc, _, r3.gok, v2.ext e3, v3, h3, fun w dw J4 G4 e4 g4 v4 h4 => ?_⟩
    obtain ⟨rfl, h4⟩ := h4
    exact ⟨false, rv_bl v4, kk J4 G4 ((e2.trans e3).trans e4) (r3.ext e4 g4) h4⟩
  · have one : ∀ i ∈ (Dl.CT.one iy).slots, i ∈ own.map (·.2) := fun i hi => by simp [CT.slots] at hi; rw [hi]; exact iv
    refine ⟨ρ, G, _, r0, h, fun J items ok H1 G1 e1 r1 it h1 => fun p hp => ?_⟩
    obtain ⟨e2, r2, _⟩ := r1.newLst hp (repL_nil (K := X.K) (G := G1) (H := H1))
    have h2 := h1 p (r1.gok.fresh hp)
    refine ⟨fun i m H2 => m = items.length - i ∧ i ≤ items.length ∧ ∃ G2, Ext (updG G1 p (.lst [])) (upd H1 p (.lst [])) G2 H2 ∧ GOk X.K G2 H2 ∧ dAsksGo ok rH n Ls r tc iy (own.map (·.2)) ρ p (items.drop i) G2 q, ⟨items.length, rfl, Nat.zero_le _, _, Ext.refl _ _, r2.gok, h2⟩, ?_⟩
    rintro i m H2 ⟨rfl, hi2, G2, e3, g3, h3⟩
    have r3 : DRel X.K σ H2 ρ G2 := r2.ext e3 g3
    have e13 : Ext G1 H1 G2 H2 := e2.trans e3
    by_cases hlt : i < items.length
    · rw [List.drop_eq_getElem_cons hlt] at h3
      unfold dAsksGo at h3
      obtain ⟨hok, h3⟩ := h3
      obtain ⟨a, _⟩ := it G2 H2 e13 g3 hok i
      obtain ⟨go, yl⟩ := a items[i] (List.getElem?_eq_getElem hlt)
      refine .inr ⟨go, fun H3 => ∃ G3, Ext (updG G1 p (.lst [])) (upd H1 p (.lst [])) G3 H3 ∧ GOk X.K G3 H3 ∧ dAsksGo ok rH n Ls r tc iy (own.map (·.2)) ρ p (items.drop (i + 1)) G3 q, fun H3 ⟨G3, q3⟩ => ⟨items.length - (i + 1), by omega, rfl, hlt, G3, q3⟩, fun xv H3 hyl => ?_⟩
      obtain ⟨e4, g4, rx⟩ := yl xv H3 hyl
      have r4 : DRel X.K (wipe σ (own.map (·.2))) H3 (wipeD ρ (own.map (·.2))) G2 := (r3.ext e4 g4).wipe _
      refine bindC_ok (ct := .one iy) one r4 rx rfl fun σ5 r5 w5 => ⟨by rw [w5, wipe_wipe], _, G2, items[i], _, r5, ?_, h3, r3.ext e4 g4, fun J2 G6 e6 r6 h6 => ?_⟩
      · have hl : iy < (wipeD ρ (own.map (·.2))).length := by
          have z := (List.getElem?_eq_some_iff.mp hy).1
          have z1 := I.len
          have z2 := r4.len
          rw [wipe_length] at z2
          omega
        exact sl_set hl
      · exact ⟨G6, (e3.trans e4).trans e6, r6.gok, h6⟩
    · have e : i = items.length := by omega
      subst e
      rw [List.drop_length] at h3
      unfold dAsksGo at h3
      exact .inl ⟨(it G2 H2 e13 g3 h3.1 _).2 rfl, kq _ (.ref p) H2 G2 (e1.trans e13) r3 (by unfold RepV; rfl) h3.2⟩
end
abbrev Phi := Addr → Addr → Heap → Prop
section
variable {X : Cx}
theorem de_lamQ {c P : Addr} {q : Str} {params : Arguments} {body : Expr} {scope : Scope} {pos : Pos} (TB : TabB X.base X.mg c P) (hcode : X.env.code = .ref c) (hq : X.env.qual ++ "<lambda>" = q) (hdef : defaultsOf params X.env = ([], [])) (LS : LamS X.env.scope scope) :
    DE X (.Lambda params body scope pos) (dLam P q (lamP q params body scope (cloFrom X.env.cells scope.names []))) := by
  subst hq
  exact de_lam TB hcode hdef LS.free
theorem lamOf_by {k : Nat} {q : Str} {params : Arguments} {body : Expr} {scope : Scope} {t : XTE} (hq : X.env.qual ++ "<lambda>" = q) (LS : LamS X.env.scope scope)
    (hbind : ∀ (cl : List (Str × Addr)) (pm cv ctv : Value), bindArgs (PySem.W.kla_fn "<lambda>" (X.env.qual ++ "<lambda>") params body scope cl pm cv ctv) ⟨[], []⟩ = pure [])
    (hbody : ∀ (A : Around) (outer : List Env) (s : Shared) (H : Hp) (E : XK) (f c' : Addr), Room k (A.deeper (lamEnv X scope s.heap.objs.size f c')) → (A.deeper (lamEnv X scope s.heap.objs.size f c')).guards = some [] →
      Takes (lamCx X A outer s H E scope f c') (fun c d _ H' => E c d H') → XE1 (lamCx X A outer s H E scope f c') (fun c d _ H' => E c d H') body t) :
    LamOf X k ⟨q, lamP q params body scope (cloFrom X.env.cells scope.names []), t⟩ := by
  subst hq
  exact ⟨params, body, scope, rfl, rfl, LS, hbind, hbody⟩
theorem all_nil {k : Nat} : ∀ l ∈ ([] : List LamI), LamOf X k l := fun _ h => (nomatch h)
theorem all_cons {k : Nat} {l : LamI} {Ls : List LamI} (h : LamOf X k l) (t : ∀ l ∈ Ls, LamOf X k l) : ∀ l' ∈ l :: Ls, LamOf X k l' := fun l' hl => (List.mem_cons.mp hl).elim (fun e => e ▸ h) (t l')
end
end Dl

namespace Dl
open PySem L2 PyProof.Rows
def pickL {α : Type} (xs : List α) (i k : Int) : List α := (sliceRange (sliceBounds (some i) none (some k) xs.length).1 (sliceBounds (some i) none (some k) xs.length).2.1 (sliceBounds (some i) none (some k) xs.length).2.2).filterMap fun j => xs[j]?
theorem pickL_mem {α : Type} {xs : List α} {i k : Int} {x : α} (h : x ∈ pickL xs i k) : x ∈ xs := by
  obtain ⟨j, _, e⟩ := List.mem_filterMap.mp h
  exact List.mem_of_getElem? e
def tStepL (K : PySem.W.Frag) (te tl ts : TE) : TE := fun σ H Q => te σ H fun x H1 => tl σ H1 fun y H2 => ∃ i, y = .int i ∧ ts σ H2 fun z H3 => ∃ k, z = .int k ∧ k ≠ 0 ∧ ∃ a xs, x = .ref a ∧ SqL K H3 a xs ∧ ∀ p, H3 p = none → Q (.ref p) (upd H3 p (.lst (pickL xs i k)))
theorem vals_at : ∀ {xs : List V} {us : List Value}, Vals xs us → ∀ j : Nat, (∃ v u, xs[j]? = some v ∧ us[j]? = some u ∧ RelV v u) ∨ (xs[j]? = none ∧ us[j]? = none)
  | _, _, .nil, j => .inr ⟨by simp, by simp⟩
  | _, _, .cons r t, 0 => .inl ⟨_, _, rfl, rfl, r⟩
  | _, _, .cons r t, j + 1 => by
    rw [List.getElem?_cons_succ, List.getElem?_cons_succ]
    exact vals_at t j
theorem vals_pick {xs : List V} {us : List Value} (r : Vals xs us) (f : List Nat) : Vals (f.filterMap fun j => xs[j]?) (f.filterMap fun j => us[j]?) := by
  induction f with
  | nil => exact .nil
  | cons j f ih =>
    rw [List.filterMap_cons, List.filterMap_cons]
    rcases vals_at r j with ⟨v, u, e1, e2, rv⟩ | ⟨e1, e2⟩
    · rw [e1, e2]; exact .cons rv ih
    · rw [e1, e2]; exact ih
theorem pick_len {α : Type} (xs : List α) (i k : Int) (hx : xs.length ≤ sizeLine) : (pickL xs i k).length ≤ sizeLine := by
  have e : ∀ {β : Type} (ys : List β), ys.length = xs.length → (pickL ys i k).length = (pickL xs i k).length := fun {β} ys e => by
    unfold pickL
    rw [e]
    generalize sliceRange _ _ _ = f
    induction f with
    | nil => rfl
    | cons j f ih =>
      rw [List.filterMap_cons, List.filterMap_cons]
      cases h1 : ys[j]? with
      | none =>
        have : xs[j]? = none := by rw [List.getElem?_eq_none_iff] at h1 ⊢; omega
        rw [this]; exact ih
      | some y =>
        have hj := (List.getElem?_eq_some_iff.mp h1).1
        have : xs[j]? = some xs[j] := List.getElem?_eq_getElem (by omega)
        rw [this, List.length_cons, List.length_cons, ih]
  have h := slicePick_size_le (List.replicate xs.length Value.none).toArray (some i) none (some k)
  have h2 := e (List.replicate xs.length Value.none) (by simp)
  have h3 : (slicePick (List.replicate xs.length Value.none).toArray (some i) none (some k)).size = (pickL (List.replicate xs.length Value.none) i k).length := by
    unfold slicePick pickL
    rw [List.size_toArray, List.size_toArray]
    congr 1
    refine congrArg (fun f => List.filterMap f _) (funext fun j => ?_)
    rw [List.getElem?_toArray]
  rw [h3, h2] at h
  rw [List.size_toArray, List.length_replicate] at h
  exact Nat.le_trans h hx
section
variable {X : Cx}
theorem pe_stepL {e lo st : Expr} {te tl ts : TE} {p3 pos : Pos} (he : PE X e te) (hl : PE X lo tl) (hs : PE X st ts) : PE X (.Subscript e (.Slice (some lo) none (some st) p3) pos) (tStepL X.K te tl ts) := by
  refine ⟨fun pins s σ H Q I h => ?_⟩
  refine Subscript_ (thn (he.run pins s σ H _ I h) fun w s1 ⟨x, H1, I1, r1, q1⟩ => ?_)
  refine wpAny_Slice (thn (hl.run pins s1 σ H1 _ I1 q1) fun vl s2 ⟨y, H2, I2, r2, i, ey, q2⟩ => ?_)
  refine thn (po_none.run pins s2 σ H2 (fun o J => o = none ∧ J = H2) I2 ⟨rfl, rfl⟩) fun vu s3 ⟨ou, J, I3, pu, eu, ej⟩ => ?_
  rw [ej] at I3
  refine thn (hs.run pins s3 σ H2 _ I3 q2) fun vs s4 ⟨z, H4, I4, r4, k, ez, k0, a, xs, ex, hx, q⟩ => ?_
  subst ey ez ex eu
  obtain ⟨t1, rfl⟩ := r2
  obtain ⟨t2, rfl⟩ := r4
  obtain rfl : w = Value.ref a := r1
  have I5 : Inv X pins σ H4 { s4 with heap := s4.heap.push { cls := .type "slice", data := .fields #[.int i t1, vu, .int k t2] } } := I4.kept (t' := s4.toks) fun _ _ z => Heap.get?_push_of_some _ z
  obtain ⟨its, rv, pl, hz⟩ := I5.list hx
  have hz2 : its.length ≤ sizeLine := by rw [← rv.length]; exact hz
  show wpAny (model X.prog X.w) X.A (subscriptTail e (.Slice (some lo) none (some st) p3) (.ref a) (.ref s4.heap.objs.size)) _ _ _
  refine tail_any (ops := [.ref a, .ref s4.heap.objs.size]) pl.isList.typeIs (PySem.slot_list_getitem.lookup) ?_ (by with_unfolding_all rfl)
  refine wpAny_getItem_list_slice (lo := some i) (hi := none) (st := some k) pl.isList (Heap.IsSliceOf.new _ (.int i t1) vu (.int k t2)) (.int i t1) pu (.int k t2) (fun z => k0 (Option.some.inj z)) ?_ (by rw [List.size_toArray]; exact hz2)
  have e1 : slicePick its.toArray (some i) none (some k) = (pickL its i k).toArray := by
    unfold slicePick pickL
    rw [List.size_toArray]
    congr 1
    refine congrArg (fun f => List.filterMap f _) (funext fun j => ?_)
    rw [List.getElem?_toArray]
  rw [e1]
  have vp : Vals (pickL xs i k) (pickL its i k) := by
    unfold pickL
    rw [rv.length]
    exact vals_pick rv _
  refine ⟨.ref _, _, I5.laid (t' := s4.toks) (o := .lst (pickL xs i k)) (fun _ _ z => Heap.get?_push_of_some _ z) (Nat.le_refl _) ?_, rfl, q _ (I5.hok.fresh (Nat.le_refl _))⟩
  exact ⟨pick_len xs i k hz, _, 0, vp, Heap.get?_push_size _ rfl⟩
end
def dStep (te tl ts : DTE) : DTE := fun ρ G Q => te ρ G fun x G1 => tl ρ G1 fun y G2 => ∃ i, y = .int i ∧ ts ρ G2 fun z G3 => ∃ k, z = .int k ∧ k ≠ 0 ∧ ∃ ds, lsOf G3 x = some ds ∧ ∀ p, G3 p = none → Q (.ref p) (updG G3 p (.lst (pickL ds i k)))
section
variable {K : PySem.W.Frag} {G : GH} {H : Hp}
theorem repL_at : ∀ {ds : List D} {xs : List V}, RepL K G H ds xs → ∀ j : Nat, (∃ d v, ds[j]? = some d ∧ xs[j]? = some v ∧ RepV K G H d v) ∨ (ds[j]? = none ∧ xs[j]? = none)
  | [], xs, r, j => by unfold RepL at r; subst r; exact .inr ⟨by simp, by simp⟩
  | d :: ds, xs, r, j => by
    unfold RepL at r
    obtain ⟨x, ys, rfl, h1, h2⟩ := r
    cases j with
    | zero => exact .inl ⟨d, x, rfl, rfl, h1⟩
    | succ j =>
      rw [List.getElem?_cons_succ, List.getElem?_cons_succ]
      exact repL_at h2 j
theorem repL_pick {ds : List D} {xs : List V} (r : RepL K G H ds xs) (f : List Nat) : RepL K G H (f.filterMap fun j => ds[j]?) (f.filterMap fun j => xs[j]?) := by
  induction f with
  | nil => exact repL_nil
  | cons j f ih =>
    rw [List.filterMap_cons, List.filterMap_cons]
    rcases repL_at r j with ⟨d, v, e1, e2, rv⟩ | ⟨e1, e2⟩
    · rw [e1, e2]; exact repL_cons rv ih
    · rw [e1, e2]; exact ih
end
section
variable {X : Cx}
theorem de_step {e lo st : Expr} {te tl ts : DTE} {p3 pos : Pos} (he : DE X e te) (hl : DE X lo tl) (hs : DE X st ts) : DE X (.Subscript e (.Slice (some lo) none (some st) p3) pos) (dStep te tl ts) := by
  refine (pe_stepL he hl hs).imp fun σ H Q ⟨ρ, G, q, r, h, kq⟩ => ?_
  refine ⟨ρ, G, _, r, h, fun x dx H1 G1 e1 r1 v1 h1 => ?_⟩
  refine ⟨ρ, G1, _, r1, h1, fun y dy H2 G2 e2 r2 v2 h2 => ?_⟩
  obtain ⟨i, rfl, h2⟩ := h2
  refine ⟨i, rv_int v2, ρ, G2, _, r2, h2, fun z dz H3 G3 e3 r3 v3 h3 => ?_⟩
  obtain ⟨k, rfl, k0, ds, hls, h3⟩ := h3
  obtain ⟨a, xs, ex, hx, rl⟩ := ls_at r3.gok ((v1.ext e2).ext e3) hls
  refine ⟨k, rv_int v3, k0, a, xs, ex, SqL.of hx, fun p hp => ?_⟩
  have rp : RepL X.K G3 H3 (pickL ds i k) (pickL xs i k) := by
    unfold pickL
    rw [← rl.length]
    exact repL_pick rl _
  obtain ⟨e', g', rv'⟩ := new_lst r3.gok hp rp
  exact kq _ _ _ _ (((e1.trans e2).trans e3).trans e') (r3.ext e' g') rv' (h3 p (r3.gok.fresh hp))
end
end Dl


namespace Dl
open PySem PySem.Spec PyProof.Rows L2
def ItzM (K : PySem.W.Frag) (a b : Addr) : It :=
  ⟨fun i H => ∃ (xs ys : List V) (x y : V), SqL K H a xs ∧ SqT K H b ys ∧ xs[i]? = some x ∧ ys[i]? = some y,
    fun i H v H' => ∃ T x y, v = .ref T ∧ H T = none ∧ H' = upd H T (.tup [x, y]) ∧ (∀ xs, SqL K H a xs → xs[i]? = some x) ∧ ∀ ys, SqT K H b ys → ys[i]? = some y,
    fun i H => ∃ xs ys : List V, SqL K H a xs ∧ SqT K H b ys ∧ (xs.length = i ∧ i ≤ ys.length ∨ ys.length = i ∧ i ≤ xs.length)⟩
def StM (z TI TO i1 i2 a b : Addr) (i : Nat) (h : Heap) : Prop := IsZip h z TI TO .none ∧ IsPair h TI (.ref i1) (.ref i2) ∧ (∃ x y, IsPair h TO x y) ∧ h.IsListIter i1 a i ∧ h.IsTupleIter i2 b i
section
variable {z TI TO i1 i2 a b : Addr}
theorem sepM (D : ZipApart z TI TO i1 i2 a b) : ZipSep2 z TI TO i1 i2 [i1, a] [i2, b] where
  TIz := D.TIz
  TOz := D.TOz
  TITO := D.TITO
  TIi1 := D.TIi1
  mem1 := by simp
  zf1 := by simp [D.i1z.symm, D.l1z.symm]
  Tf1 := by simp [D.TOi1, D.l1TO.symm]
  TIi2 := D.TIi2
  mem2 := by simp
  zf2 := by simp [D.i2z.symm, D.l2z.symm]
  Tf2 := by simp [D.TOi2, D.l2TO.symm]
  sep1_2 := by simp [D.i12, D.l2i1.symm]
  sep2_1 := by simp [D.i12.symm, D.l1i2.symm]
theorem five {c : Addr} (h : c ∈ [z, TI, TO, i1, i2]) : c = z ∨ c = TI ∨ c = TO ∨ c = i1 ∨ c = i2 := by simpa using h
theorem StM.there {i : Nat} {h : Heap} (st : StM z TI TO i1 i2 a b i h) {c : Addr} (hc : c ∈ [z, TI, TO, i1, i2]) : ∃ o, h.get? c = some o ∧ ∀ v, o.data ≠ .cell v := by
  obtain ⟨hz, hTI, ⟨x, y, hTO⟩, ⟨o1, e1, _, d1⟩, ⟨o2, e2, _, d2⟩⟩ := st
  rcases five hc with q | q | q | q | q
  · rw [q]; exact ⟨_, hz, fun v q => nomatch q⟩
  · rw [q]; exact ⟨_, hTI, fun v q => nomatch q⟩
  · rw [q]; exact ⟨_, hTO, fun v q => nomatch q⟩
  · rw [q]; exact ⟨o1, e1, fun v q => by rw [d1] at q; cases q⟩
  · rw [q]; exact ⟨o2, e2, fun v q => by rw [d2] at q; cases q⟩
theorem turn_zipM {P : Program} {w : World} {K : PySem.W.Frag} {elts : List Expr} {kk : Nat} {tpos : Pos} (D : ZipApart z TI TO i1 i2 a b) :
    Turn P w K (.Tuple elts kk tpos) (ItzM K a b) [z, TI, TO, i1, i2] z (StM z TI TO i1 i2 a b) where
  mem := by simp
  obj := fun i h st c hc => st.there hc
  keep := fun i h h' st k => by
    obtain ⟨hz, hTI, ⟨x, y, hTO⟩, h1, h2⟩ := st
    exact ⟨k z (by simp) _ hz, k TI (by simp) _ hTI, ⟨x, y, k TO (by simp) _ hTO⟩, h1.at fun o q => k i1 (by simp) o q, h2.at fun o q => k i2 (by simp) o q⟩
  item := by
    intro X hP hw hK hc i pins s σ H E I hf st hg
    subst hP hw hK
    have lt5 : ∀ c ∈ [z, TI, TO, i1, i2], c < s.heap.objs.size := fun c hcm => by obtain ⟨o, ho, _⟩ := st.there hcm; exact Heap.lt_size ho
    obtain ⟨hz, hTI, ⟨x0, y0, hTO⟩, h1, h2⟩ := st
    obtain ⟨xs, ys, x, y, hqx, hqy, hx, hy⟩ := hg
    obtain ⟨its, rv, p, _⟩ := I.list hqx
    obtain ⟨its2, rv2, p2, _⟩ := I.tuple hqy
    obtain ⟨u, hu, ru⟩ := rv.get hx
    obtain ⟨u2, hu2, ru2⟩ := rv2.get hy
    have hh : X.A.in1.handled = none := I.ok.hd hc
    have n1 : i < its.toArray.size := by
      have := (List.getElem?_eq_some_iff.mp hu).1
      simpa using this
    have n2 : i < its2.toArray.size := by
      have := (List.getElem?_eq_some_iff.mp hu2).1
      simpa using this
    refine wpAny_pyNext_zipD2_item (sepM D) (Draws.list hh i1 a D.l1i1 its.toArray) (Draws.tuple hh i2 b D.l2i2 its2.toArray) hz hTI hTO ⟨h1, p.isList⟩ ⟨h2, p2⟩ n1 n2 fun v1 v2 h' tk e1 e2 z' TO' s1' s2' hT hsz hk => ?_
    have ev1 : v1 = u := by
      have q : its.toArray[i]? = some v1 := e1
      rw [List.getElem?_toArray, hu] at q
      exact (Option.some.inj q).symm
    have ev2 : v2 = u2 := by
      have q : its2.toArray[i]? = some v2 := e2
      rw [List.getElem?_toArray, hu2] at q
      exact (Option.some.inj q).symm
    subst ev1 ev2
    have hzl : z < s.heap.objs.size := lt5 z (by simp)
    refine ⟨_, rfl, wpAny_letOwnedTupleGo_zip (s := { s with heap := h', toks := tk }) z' fun h'' z'' sb => ?_⟩
    have hT2 : h''.get? s.heap.objs.size = some { cls := .type "tuple", data := .seq #[v1, v2] } := (sb.2 _ (Nat.ne_of_gt hzl)).trans hT
    have new : ObjOk X.prog X.w (upd H s.heap.objs.size (.tup [x, y])) h'' s.heap.objs.size (.tup [x, y]) := ⟨by show 2 ≤ sizeLine; decide, [v1, v2], .cons ru (.cons ru2 .nil), ⟨_, hT2, rfl, _, rfl⟩⟩
    have I1 : L2.Inv X pins σ (upd H s.heap.objs.size (.tup [x, y])) { s with heap := h'', toks := tk } :=
      I.turnedNew (t' := tk) (ch := [z, TI, TO, i1, i2]) (fun c o hb q => (sb.2 c (fun q' => hb (by simp [q']))).trans (hk c o (fun q' => hb (by simp [q'])) (fun q' => hb (by simp [q'])) (fun q' => hb (by simp [q'])) (fun q' => hb (by simp [q'])) q)) hf (Nat.le_refl _) new
    refine ⟨.ref s.heap.objs.size, _, I1, rfl, ⟨_, x, y, rfl, I.hok.fresh (Nat.le_refl _), rfl, fun l hl => by rw [I.list_inj hl hqx]; exact hx, fun l hl => by rw [I.tuple_inj hl hqy]; exact hy⟩, ⟨z'', ?_, ⟨v1, v2, ?_⟩, ?_, ?_⟩, fun c hcm => ?_⟩
    · exact (sb.2 _ D.TIz).trans (hk _ _ D.TIz D.TITO D.TIi1 D.TIi2 hTI)
    · exact (sb.2 _ D.TOz).trans TO'
    · exact s1'.1.at fun o q => (sb.2 _ D.i1z).trans q
    · exact s2'.1.at fun o q => (sb.2 _ D.i2z).trans q
    · rw [upd_ne (Nat.ne_of_lt (lt5 c hcm))]
      exact (hf c hcm).1
  done := by
    intro X hP hw hK hc i pins s σ H E I hf st hg
    subst hP hw hK
    obtain ⟨hz, hTI, ⟨x0, y0, hTO⟩, h1, h2⟩ := st
    obtain ⟨xs, ys, hqx, hqy, hend⟩ := hg
    obtain ⟨its, rv, p, _⟩ := I.list hqx
    obtain ⟨its2, rv2, p2, _⟩ := I.tuple hqy
    have l1 := rv.length
    have l2 := rv2.length
    have hh : X.A.in1.handled = none := I.ok.hd hc
    refine wpAny_pyNext_zipD2_end (sepM D) (Draws.list hh i1 a D.l1i1 its.toArray) (Draws.tuple hh i2 b D.l2i2 its2.toArray) hz hTI hTO ⟨h1, p.isList⟩ ⟨h2, p2⟩ (by simp; omega) (by simp; omega) (by simp; omega) fun h' tk hk => ?_
    exact ⟨rfl, I.turnedL (t' := tk) (ch := [z, TI, TO, i1, i2]) (fun c o hb q => hk c o (fun q' => hb (by simp [q'])) (fun q' => hb (by simp [q'])) (fun q' => hb (by simp [q'])) (fun q' => hb (by simp [q'])) q) hf⟩
  self := fun A i s Q E st h => wpAny_pyIter_zip st.1 h
end
def iZipM (K : PySem.W.Frag) (ta : TA) : TI := fun σ H R => ta σ H fun vs H1 => ∃ a b xs ys, vs = [.ref a, .ref b] ∧ SqL K H1 a xs ∧ SqT K H1 b ys ∧ R (ItzM K a b) H1
theorem pi_zipM {X : Cx} {e e2 : Expr} {ta : TA} {p pos tpos : Pos} {elts : List Expr} {kk : Nat} (hg : Gl X "zip") (hm : X.mg "zip" = none) (ha : PA X [e, e2] ta)
    (hs : starEach [e, e2] X.env = (false, eval e X.env) :: starEach [e2] X.env := by rfl) (hpl : (backTo pos (starEach [e2] X.env)).any (·.1) = false := by rfl) :
    PI X (.Tuple elts kk tpos) (.Call (.Name "zip" p) [e, e2] [] pos) (iZipM X.K ta) := by
  refine ⟨fun pins s σ H R I h => ?_⟩
  refine Call_ (ld_blt I hg hm PyProof.Rows.boot_zip (PyProof.Rows.callWith_type1 (thn (ha.run pos pins s σ H _ I h) fun us s1 ⟨vs, H1, I1, r1, a, b, xs, ys, ex, hqx, hqy, q⟩ => ?_) hs hpl))
  subst ex
  obtain ⟨u, v, rfl, ru, rv0⟩ : ∃ u v, us = [u, v] ∧ RelV (.ref a) u ∧ RelV (.ref b) v := by
    cases r1 with
    | cons r rr =>
      cases rr with
      | cons r' rr => cases rr; exact ⟨_, _, rfl, r, r'⟩
  cases ru
  cases rv0
  obtain ⟨its, rv, p1, _⟩ := I1.list hqx
  obtain ⟨its2, rv2, p2, _⟩ := I1.tuple hqy
  have p2' : s1.heap.IsTuple b its2.toArray := p2
  obtain ⟨o2, ho2, _⟩ := id p2'
  refine zip_begins2 (begins_list a its.toArray) (begins_tuple b its2.toArray) p1.isList p2' fun h' hz hTI hTO h1 h2 hsz hk => wpAny_pyIter_zip hz ?_
  have I2 : L2.Inv X pins σ H1 { s1 with heap := h' } := I1.kept (t' := s1.toks) hk
  refine ⟨s1.heap.objs.size + 4, [s1.heap.objs.size + 4, s1.heap.objs.size + 2, s1.heap.objs.size + 3, s1.heap.objs.size, s1.heap.objs.size + 1], _, _, H1, rfl, I2, turn_zipM (PySem.W.ktu_apart s1.heap.objs.size a b p1.lt (Heap.lt_size ho2)),
    ⟨hz, hTI, ⟨_, _, hTO⟩, ⟨_, h1, rfl, rfl⟩, ⟨_, h2, rfl, rfl⟩⟩, fun c hc => ?_, q⟩
  have hle : s1.heap.objs.size ≤ c := by
    rcases five hc with z | z | z | z | z <;> rw [z] <;> omega
  exact I1.fpOk hle (I1.hok.fresh hle)
def zipD (xs ys : List D) : List D := (xs.zip ys).map fun q => D.tup [q.1, q.2]
theorem zipD_get {xs ys : List D} {i : Nat} {d : D} (h : (zipD xs ys)[i]? = some d) : ∃ x y, xs[i]? = some x ∧ ys[i]? = some y ∧ d = .tup [x, y] := by
  unfold zipD at h
  rw [List.getElem?_map] at h
  cases q : (xs.zip ys)[i]? with
  | none => rw [q] at h; cases h
  | some z =>
    rw [q] at h
    obtain ⟨h1, h2⟩ := List.getElem?_zip_eq_some.mp q
    exact ⟨z.1, z.2, h1, h2, (Option.some.inj h).symm⟩
theorem zipD_len (xs ys : List D) : (zipD xs ys).length = min xs.length ys.length := by simp [zipD]
@[simp] def iZpM (t : DTA) : DTI := fun ρ G Q => t ρ G fun ds G1 => match ds with
  | [.lst xs, .tup ys] => Q (zipD xs ys) okAll G1
  | _ => False
@[simp] def iEnL (te : DTE) : DTI := fun ρ G Q => te ρ G fun d G1 => match d with
  | .lst ds => Q (enumD ds) okAll G1
  | _ => False
section
variable {X : Cx}
theorem di_zipM {e e2 : Expr} {t : DTA} {p pos tpos : Pos} {elts : List Expr} {kk : Nat} (hg : Gl X "zip") (hm : X.mg "zip" = none) (he : DA X [e, e2] t)
    (hs : starEach [e, e2] X.env = (false, eval e X.env) :: starEach [e2] X.env := by rfl) (hpl : (backTo pos (starEach [e2] X.env)).any (·.1) = false := by rfl) :
    DI X (.Tuple elts kk tpos) (.Call (.Name "zip" p) [e, e2] [] pos) (iZpM t) := by
  refine (pi_zipM hg hm he hs hpl).imp fun σ H R ⟨ρ, G, q, r, h, k⟩ => ?_
  refine ⟨ρ, G, _, r, h, fun vs ds H1 G1 e1 r1 v1 h1 => ?_⟩
  obtain ⟨xs, ys, rfl, h2⟩ : ∃ xs ys, ds = [.lst xs, .tup ys] ∧ q (zipD xs ys) okAll G1 := by
    split at h1
    · exact ⟨_, _, rfl, h1⟩
    · exact h1.elim
  unfold RepL at v1
  obtain ⟨v, vr, rfl, v1, v2⟩ := v1
  unfold RepL at v2
  obtain ⟨w, wr, rfl, v2, v3⟩ := v2
  unfold RepL at v3
  subst v3
  unfold RepV at v1 v2
  obtain ⟨a, us, rfl, la, rl⟩ := v1
  obtain ⟨b, ws, rfl, tb, rt⟩ := v2
  refine ⟨a, b, us, ws, rfl, la.sq, tb.sq, k _ (zipD xs ys) okAll H1 G1 e1 r1 (fun G2 H2 e2 g2 _ i => ⟨fun d hd => ?_, fun hi => ⟨us, ws, (la.ext e2).sq, (tb.ext e2).sq, ?_⟩⟩) h2⟩
  · obtain ⟨x, y, hx, hy, rfl⟩ := zipD_get hd
    obtain ⟨u, hu, ru⟩ := (rl.ext e2).get hx
    obtain ⟨w, hw, rw'⟩ := (rt.ext e2).get hy
    refine ⟨⟨us, ws, u, w, (la.ext e2).sq, (tb.ext e2).sq, hu, hw⟩, fun z H3 hz => ?_⟩
    obtain ⟨T, x', y', rfl, hT, rfl, f1, f2⟩ := hz
    have q1 := f1 us (la.ext e2).sq
    have q2 := f2 ws (tb.ext e2).sq
    rw [hu] at q1
    rw [hw] at q2
    cases q1
    cases q2
    obtain ⟨e3, g3, v3⟩ := new_tup g2 hT (repL_cons ru (repL_one rw'))
    exact ⟨e3, g3, v3⟩
  · have l1 := rl.length
    have l2 := rt.length
    rw [zipD_len] at hi
    omega
theorem di_enumL {e : Expr} {te : DTE} {p pos tpos : Pos} {elts : List Expr} {kk : Nat} (hg : Gl X "enumerate") (hm : X.mg "enumerate" = none) (he : DE X e te) (hs : starEach [e] X.env = [(false, eval e X.env)] := by rfl) :
    DI X (.Tuple elts kk tpos) (.Call (.Name "enumerate" p) [e] [] pos) (iEnL te) := by
  refine (pi_enum hg hm (pa_cons he pa_nil (by rw [hs]; rfl)) hs).imp fun σ H R ⟨ρ, G, q, r, h, k⟩ => ?_
  refine ⟨ρ, G, _, r, h, fun v d H1 G1 e1 r1 v1 h1 => ?_⟩
  cases d with
  | lst ds =>
    unfold RepV at v1
    obtain ⟨a, xs, rfl, ta, rl⟩ := v1
    refine ⟨a, xs, rfl, ta.sq, k _ (enumD ds) okAll H1 G1 e1 r1 (fun G2 H2 e2 g2 _ i => ⟨fun d hd => ?_, fun hi => ⟨xs, (ta.ext e2).sq, by rw [rl.length, hi, enumD_len]; exact Nat.le_refl _⟩⟩) h1⟩
    obtain ⟨x, hx, rfl⟩ := enumD_get hd
    obtain ⟨w, hw, rw'⟩ := (rl.ext e2).get hx
    refine ⟨⟨xs, w, (ta.ext e2).sq, hw⟩, fun y H3 hy => ?_⟩
    obtain ⟨T, z, rfl, hT, rfl, hz⟩ := hy
    have ez := hz xs (ta.ext e2).sq
    rw [hw] at ez
    cases ez
    obtain ⟨e3, g3, v3⟩ := new_tup g2 hT (repL_cons (int_rv (i := (i : Nat))) (repL_one rw'))
    exact ⟨e3, g3, v3⟩
  | _ => exact h1.elim
end
end Dl

namespace Dl
open PySem L2
abbrev KT := List Key
def getT : List (KT × D) → KT → Option D
  | [], _ => none
  | p :: r, k => if p.1 = k then some p.2 else getT r k
section
variable {K : PySem.W.Frag} {G : GH} {H : Hp} {k : KT}
end

section
variable {X : Cx}
end
end Dl

namespace Dl
open PySem L2
section
variable {t u : XTS} {te : XTE} {ta : XTA} {tc : XTT} {tr : XTA} {E : DEnds} {Z : DZ} {ρ : DSt} {G : GH} {Q : DK} {Ql : List D → GH → Prop}
theorem iXPe {t : DTE} (h : t ρ G Q) : xPe t Z ρ G Q := h
theorem iXPa {t : DTA} (h : t ρ G Ql) : xPa t Z ρ G Ql := h
theorem iXPt {t : DTT} {Qb : Bool → GH → Prop} (h : t ρ G Qb) : xPt t Z ρ G Qb := h
theorem iXPs {t : DTS} (h : t E ρ G) : xPs t Z E ρ G := h
theorem iXSeq (h : t Z { E with nx := u Z E } ρ G) : xSeq t u Z E ρ G := h
theorem iXDrop (h : te Z ρ G fun _ G1 => E.nx ρ G1) : xDrop te Z E ρ G := h
theorem iXRet (h : te Z ρ G E.rt) : xRet te Z E ρ G := h
theorem iXIfS (h : tc Z ρ G fun b G1 => if b = true then t Z E ρ G1 else u Z E ρ G1) : xIfS tc t u Z E ρ G := h
theorem iXAsg {g : DTG} (h : te Z ρ G fun x G1 => g x ρ G1 E.nx) : xAsg te g Z E ρ G := h
theorem iXCons (h : te Z ρ G fun x G1 => tr Z ρ G1 fun xs G2 => Ql (x :: xs) G2) : xCons te tr Z ρ G Ql := h
theorem iXTup (h : ta Z ρ G fun xs G1 => xs.length ≤ sizeLine ∧ Q (.tup xs) G1) : xTup ta Z ρ G Q := h
theorem iXOp {r : DR2} {tb : XTE} (h : te Z ρ G fun x G1 => tb Z ρ G1 fun y G2 => r x y G2 Q) : xOp r te tb Z ρ G Q := h
theorem iXCall {sp : DSp} (h : ta Z ρ G fun ds G1 => sp ds G1 Q fun x G2 => Z x ρ G2) : xCall sp ta Z ρ G Q := h
theorem iXRaise {x : Str} {fl : List Str} (h : ta Z ρ G fun ds G1 => ds.length = fl.length ∧ Z ⟨x, (fl.zip ds).reverse⟩ ρ G1) : xRaise x fl ta Z E ρ G := h
theorem iDSeqTry {CT : CTab} {T : Str} {i : Nat} {tb : XTS} {ts : Addr → Str → Addr → DTS} (h : tb (fun x ρ' G' => (∃ as fs, (x.cls, as, fs) ∈ CT ∧ as.contains T = true) ∧
  ∀ a d, ts a x.cls d { nx := fun ρ2 G2 => E.nx (ρ2.set i none) G2, rt := E.rt, bk := fun ρ2 G2 => E.bk (ρ2.set i none) G2, ct := fun ρ2 G2 => E.ct (ρ2.set i none) G2 } (ρ'.set i (some (.exh a x.cls d (x.fs.map (·.1)) (x.fs.map (·.2))))) G') E ρ G) : dTry CT T i tb ts E ρ G := h
theorem iIsX {CT : CTab} {a d : Addr} {c T : Str} {te : DTE} (h : te ρ G fun v G1 => (∃ ns vs, v = .exh a c d ns vs) ∧ ∃ as fs, (c, as, fs) ∈ CT ∧ T ∈ CT.names ∧ Q (.bl (as.contains T)) G1) : dIsX CT a c d te T ρ G Q := h
theorem iExf {CT : CTab} {a d : Addr} {c f : Str} {te : DTE} (h : te ρ G fun v G1 => ∃ ns vs y, v = .exh a c d ns vs ∧ (∃ as fs, (c, as, fs) ∈ CT ∧ f ∈ fs) ∧ (ns.zip vs).lookup f = some y ∧ Q y G1) : dExf CT a c d te f ρ G Q := h
theorem iXAct {i : Nat} {α : Act} (e : sl ρ i = some α.d) (h : α.tl (fun x G' => Z x ρ G') G Q) : xAct i α Z ρ G Q := ⟨e, h⟩
end
theorem slL {ds : List D} {lo hi : Option Int} {G : GH} {Q : DK} (h : ∀ p, G p = none → Q (.ref p) (updG G p (.lst (cutD ds lo hi)))) : rSl (.lst ds) lo hi G Q := h
def pSpX (R : List D → Except DX D → Prop) : DSp := fun ds G Q E => ∃ o, R ds o ∧ ∀ G', Grow G G' → (match o with | .ok d => Q d G' | .error x => E x G')
theorem pSpX_ok {R : List D → Except DX D → Prop} {ds : List D} {G : GH} {Q : DK} {E : DXK} {d : D} (r : R ds (.ok d)) (h : ∀ G', Grow G G' → Q d G') : pSpX R ds G Q E := ⟨.ok d, r, h⟩
theorem pSpX_err {R : List D → Except DX D → Prop} {ds : List D} {G : GH} {Q : DK} {E : DXK} {x : DX} (r : R ds (.error x)) (h : ∀ G', Grow G G' → E x G') : pSpX R ds G Q E := ⟨.error x, r, h⟩
end Dl

namespace Dl
open PySem PySem.Spec PyProof.Rows L2 LamX
def tabsT (K : PySem.W.Frag) (tq : List (He.Defn × Str)) : List (Addr × Str) := tq.map fun p => ((He.cT K p.1).2, p.2)
def csT (K : PySem.W.Frag) (tq : List (He.Defn × Str)) : List (Addr × Addr) := tq.map fun p => He.cT K p.1
section
variable {fx : List Fx} {fn : List He.DefD} {tq : List (He.Defn × Str)} {ex : PySem.W.Frag → Bool} {xs : List XD} {pd : List PDef} {h : Heap} {K : PySem.W.Frag}
theorem SaysE.empty' (c : SaysE fx fn (tq.map (·.1)) ex xs pd h K) : ∀ p ∈ tabsT K tq, h.get? p.1 = some { cls := .none, data := .fields #[] } := fun p hp => by
  obtain ⟨q, hq, rfl⟩ := List.mem_map.mp hp
  exact c.empty _ (List.mem_map_of_mem hq)
theorem SaysE.out' (c : SaysE fx fn (tq.map (·.1)) ex xs pd h K) : ∀ p ∈ tabsT K tq, K.lookup p.1 = none := fun p hp => by
  obtain ⟨q, hq, rfl⟩ := List.mem_map.mp hp
  exact c.out _ (List.mem_map_of_mem hq)
theorem csT_in : ∀ p ∈ csT K tq, p.2 ∈ (tabsT K tq).map (·.1) := fun p hp => by
  obtain ⟨q, hq, rfl⟩ := List.mem_map.mp hp
  exact List.mem_map.mpr ⟨_, List.mem_map_of_mem hq, rfl⟩
theorem tabsT_cs : ∀ p ∈ tabsT K tq, ∃ c, (c, p.1) ∈ csT K tq := fun p hp => by
  obtain ⟨q, hq, rfl⟩ := List.mem_map.mp hp
  exact ⟨_, List.mem_map_of_mem (f := fun p : He.Defn × Str => He.cT K p.1) hq⟩
theorem SaysE.hd' (c : SaysE fx fn (tq.map (·.1)) ex xs pd h K) (X : K.In h) : ∀ p ∈ csT K tq, PySem.W.CodeHd h p.1 p.2 := fun p hp => by
  obtain ⟨q, hq, rfl⟩ := List.mem_map.mp hp
  exact PySem.W.codeHd_of_K X (c.hd _ (List.mem_map_of_mem hq))
theorem SaysE.at_ (c : SaysE fx fn (tq.map (·.1)) ex xs pd h K) (i : Nat) {p : He.Defn} {q : Str} (e : tq[i]? = some (p, q) := by rfl) : tabG (tabsT K tq) (He.cT K p).2 = some (.tab q) := by
  have nd : ((tabsT K tq).map (·.1)).Nodup := by
    have z := c.nd
    rw [List.map_map] at z
    unfold tabsT
    rw [List.map_map]
    exact z
  exact tabG_at nd (List.mem_map_of_mem (f := fun p : He.Defn × Str => ((He.cT K p.1).2, p.2)) (List.mem_of_getElem? e))
theorem csT_at (i : Nat) {p : He.Defn} {q : Str} (e : tq[i]? = some (p, q) := by rfl) : He.cT K p ∈ csT K tq := List.mem_map_of_mem (f := fun p : He.Defn × Str => He.cT K p.1) (List.mem_of_getElem? e)
end
theorem funD_code {K : PySem.W.Frag} {x qual : Str} {params : Arguments} {body : List Stmt} {scope : Scope} {dvs : List V} {kws : List (Str × V)} {p : He.Defn} {fd : FuncData} (F : FunD K x qual params body scope dvs kws (He.fAd K p) fd) : fd.code = .ref (He.cT K p).1 := by
  obtain ⟨oc, od, dV, kV, doc, pm, an, cdv, ct, osl, rfl, lk, hcd, _⟩ := F.ex
  obtain ⟨c, rfl⟩ := He.codeIn_ref hcd
  show _ = Value.ref (He.codeOf K p)
  rw [He.codeOf_eq lk rfl]
end Dl

namespace Dl
open PySem PySem.Spec PyProof.Rows L2
section
variable {K : PySem.W.Frag} {G : GH} {H : Hp}
theorem SltD.slt {a : Addr} {c : Str} {vs : List (Option D)} (h : SltD K G H a c vs) : ∃ dx ws, SlX.Slt H a (He.ga K c) dx ws ∧ RepO K G H vs ws := by
  obtain ⟨dx, ws, g, h1, h2, r⟩ := h
  exact ⟨dx, ws, .inr ⟨h1, h2⟩, r⟩
end
section
variable {X : Cx} {e o value : Expr} {c f : Str} {pos pos' : Pos} {te to tv : DTE} {p : Addr} {i : Nat}
end

structure PCallee (P : Program) (w : World) (K : PySem.W.Frag) (mg : Str → Option Value) (base : Heap) (k : Nat) (c f : Str) (sp : DSp) : Prop where
  ex : ∃ (p g : Addr) (fd : FuncData) (x : Str), DFn P w K mg base k g fd [x] sp ∧ SlX.SCls K (He.ga K c) ∧ PropOf K (He.ga K c) f p g ∧ Binds K fd [x] []
section
variable {X : Cx} {CX : CXT} {k : Nat} {C g p : Addr} {fd : FuncData} {ps : List Str} {x f m : Str} {pos apos : Pos} {e o : Expr} {es : List Expr} {E : XK} {ta : TE} {t : TA} {sp : Sp}
end
section
variable {X : Cx} {k : Nat} {c f x : Str} {pos : Pos} {e : Expr} {te : DTE} {sp : DSp}
end

structure MCalleeX (P : Program) (w : World) (K : PySem.W.Frag) (mg : Str → Option Value) (base : Heap) (k : Nat) (c m : Str) (n : Nat) (ks : List Str) (src : List (Nat × Nat)) (dv : List D) (sp : DSp) : Prop where
  ex : ∃ f fd ps, XFn P w K mg base k f fd ps sp ∧ SlX.SCls K (He.ga K c) ∧ Meth K (He.ga K c) m f ∧ ∃ (its : List Value) (dvs : List V), Vals dvs its ∧ (∀ G H, RepL K G H dv dvs) ∧
    ∀ (s : Shared) (us ws : List Value), K.In s.heap → us.length = n → ws.length = ks.length → BindsTo s fd ⟨us, ks.zip ws⟩ (ps.zip (pick src us its ws))
section
variable {X : Cx} {W : WX} {k n : Nat} {c m : Str} {ks : List Str} {src : List (Nat × Nat)} {dv : List D} {sp : DSp} {pos apos : Pos} {e o : Expr} {es : List Expr} {to : DTE} {ta tk : DTA} {kws : List Keyword} {pl : Sem Bool}
end
section
variable {X : Cx}
end
end Dl

namespace Dl
open PySem PySem.Spec PyProof.Rows L2 StX
structure VFn (P : Program) (w : World) (K : PySem.W.Frag) (mg : Str → Option Value) (base : Heap) (k : Nat) (f : Addr) (n : Nat) (ks : List Str) (src : List (Nat × Nat)) (sp : DSp) : Prop where
  go : ∀ (A : Around) (out : List Env) (st : Shared) (H : Hp) (us ws : List Value) (xs zs : List V) (Q : VK) (E : XK), Room k A → A.guards = some [] → Env0 P w K mg base A out st H → us.length = n → ws.length = ks.length → Vals xs us → Vals zs ws →
    toSp K sp (pick src xs [] zs) H Q E → codeAny (model P w) A (.call (.ref f) ⟨us, ks.zip ws⟩) (CR (L2.CX P w) out P w H st Q E) st
structure SMaker (P : Program) (w : World) (K : PySem.W.Frag) (mg : Str → Option Value) (base : Heap) (k : Nat) (c : Str) (n : Nat) (ks : List Str) (src : List (Nat × Nat)) (sp : DSp) : Prop where
  ex : ∃ f, VFn P w K mg base k f (n + 1) ks src sp ∧ Mk K (He.ga K c) f ∧ mg c = some (.ref (He.ga K c))
section
variable {X : Cx} {W : WX} {k n : Nat} {c : Str} {ks : List Str} {src : List (Nat × Nat)} {sp : DSp} {p pos : Pos} {e : Expr} {es : List Expr} {ta tk : DTA} {kws : List Keyword} {f C : Addr}
end
end Dl

namespace Dl
open PySem PySem.Spec PyProof.Rows L2
section
variable {prog : Program} {w : World} {A : Around} {E : Value → Shared → Prop} {s : Shared} {K : PySem.W.Frag} {a C g : Addr} {ox od : Obj}
end
structure QCallee (P : Program) (w : World) (K : PySem.W.Frag) (mg : Str → Option Value) (base : Heap) (k : Nat) (c m : Str) (sp : DSp) : Prop where
  ex : ∃ f fd ps, DFn P w K mg base k f fd ps sp ∧ SlX.SCls K (He.ga K c) ∧ Meth K (He.ga K c) m f ∧ Binds K fd ps []
section
variable {X : Cx} {k : Nat} {c : Str} {sp : DSp}
end
end Dl

namespace Dl
open PySem PySem.Spec PyProof.Rows L2
end Dl

namespace Dl
open PySem PySem.Spec PyProof.Rows L2
section
variable {X : Cx} {e o value : Expr} {c f : Str} {pos pos' : Pos} {te to tv : DTE} {i : Nat}
end
end Dl
namespace Dl
open PySem PySem.Spec PyProof.Rows L2
section
variable {P : Program} {w : World} {K : PySem.W.Frag} {mg : Str → Option Value} {base : Heap} {k n : Nat} {c m qual : Str} {params : Arguments} {body : List Stmt} {scope : Scope} {fd : FuncData} {ps ks : List Str} {src : List (Nat × Nat)} {sp : DSp}
end
end Dl
namespace Dl
open PySem PySem.Spec PyProof.Rows L2
end Dl

namespace Dl
open PySem L2
section
variable {ρ : DSt} {G : GH} {Q : DK} {c : Str} {i n m : Nat} {te to : DTE} {ta tk : DTA} {sp : DSp} {src : List (Nat × Nat)} {dv : List D} {Z : DZ}
end
theorem lcFtR {α : Type} (xs : List α) (g h : α → D) (p : α → Bool) {wi : DTI} {ct : CT} {tt : DTT} {te : DTE} {ρ : DSt} {vs : List Nat} {G : GH} {Q : DK} (hw : ∀ P : List D → (GH → Prop) → GH → Prop, (∀ ok G1, (∀ G, Grow G1 G → ok G) → Grow G G1 → P (xs.map g) ok G1) → wi ρ G P)
    (hl : xs.length ≤ sizeLine) (hf : ∀ x ∈ xs, ∃ ρ2, bindC ct (g x) (wipeD ρ vs) = some ρ2 ∧ (∀ (G : GH) (K : Bool → GH → Prop), (∀ G', Grow G G' → K (p x) G') → tt ρ2 G K) ∧ (p x = true → ∀ (G : GH) (K : DK), (∀ G', Grow G G' → K (h x) G') → te ρ2 G K))
    (hq : ∀ G', Grow G G' → Q (.lst ((xs.filter p).map h)) G') : dLc wi ct tt te vs ρ G (frzK Q) := by
  unfold dLc
  refine hw _ ?_
  intro ok G1 hok g1 a ha
  have key : ∀ (rs : List α) (acc : List D) (G' : GH), (∀ x ∈ rs, x ∈ xs) → acc.length + rs.length ≤ xs.length → acc ++ (rs.filter p).map h = (xs.filter p).map h → Grow G1 G' → G' a = some (.lst acc) → dLcGo ok ct tt te (wipeD ρ vs) a (rs.map g) G' (frzK Q) := by
    intro rs
    induction rs with
    | nil =>
      intro acc G' _ _ e gg ea
      refine ⟨hok _ gg, frzR ea ?_⟩
      have e2 : acc = (xs.filter p).map h := by simpa using e
      rw [e2]
      exact hq _ (g1.trans (Grow.drop ha gg))
    | cons r rs ih =>
      intro acc G' hm hl2 e gg ea
      rw [List.length_cons] at hl2
      obtain ⟨ρ2, e2, kt, ke⟩ := hf r (hm r (List.mem_cons_self ..))
      rw [List.map_cons]
      unfold dLcGo
      refine ⟨hok _ gg, ?_⟩
      rw [e2]
      refine kt _ _ fun G3 g3 => ?_
      cases hp : p r with
      | false =>
        refine ifF ?_
        rw [List.filter_cons_of_neg (by rw [hp]; decide)] at e
        exact ih acc G3 (fun x hx => hm x (List.mem_cons_of_mem _ hx)) (by omega) e (gg.trans g3) (g3 _ _ ea)
      | true =>
        refine ifT ?_
        rw [List.filter_cons_of_pos hp] at e
        refine ke hp _ _ fun G4 g4 => ?_
        have ea4 := g4 _ _ (g3 _ _ ea)
        rw [ea4]
        refine ⟨by omega, ?_⟩
        refine ih (acc ++ [h r]) _ (fun x hx => hm x (List.mem_cons_of_mem _ hx)) (by rw [List.length_append, List.length_singleton]; omega) ?_ (Grow.upd2 ha ((gg.trans g3).trans g4)) updG_same
        rw [← e]; simp
  exact key xs [] _ (fun _ h => h) (by simp) (by simp) (Grow.upd ha) updG_same
end Dl

namespace Dl
open PySem L2
abbrev KT2 := List Key
section
variable {K : PySem.W.Frag} {G : GH} {H : Hp} {k : KT2}
end

section
variable {X : Cx}
end
end Dl

namespace Dl
open PySem L2 PyProof.Rows

section
variable {X : Cx}
end

section
variable {X : Cx}
end
section
variable {X : Cx}
end
section
variable {X : Cx}
end
end Dl

namespace Dl
open PySem L2 PyProof.Rows
abbrev RoomE := L2H.RoomH
structure EFn (P : Program) (w : World) (K : PySem.W.Frag) (mg : Str → Option Value) (base : Heap) (k : Nat) (f : Addr) (fd : FuncData) (x : Str) (rE : Addr → Str → Addr → DTS) (n : Nat) : Prop where
  go : ∀ (A : Around) (out : List Env) (st : Shared) (H : Hp) (ar : Args) (u : Value) (v : V) (a : Addr) (oe : Obj) (c : Str) (d : Addr) (ns : List Str) (vs : List D) (G : GH) (q : DK) (Q : VK),
    RoomE k A → A.guards = some [] → A.handled = some (.ref a) → Zc (.ref (He.ga K c)) (some d) oe → (∃ vs, oe.data = .fields vs) → L2H.PinOk out H st (a, oe) → Env0 P w K mg base A out st H → BindsTo st fd ar [(x, u)] → RelV v u →
    RepV K G H (.exh a c d ns vs) v → GOk K G H → rE a c d { nx := fun _ G' => q .non G', rt := q } (startD n [.exh a c d ns vs]) G → (∀ v d H' G', Ext G H G' H' → GOk K G' H' → RepV K G' H' d v → q d G' → Q v H') →
    codeAny (model P w) A (.call (.ref f) ar) (CR CX0 out P w H st Q E0) st
structure ECallee (P : Program) (w : World) (K : PySem.W.Frag) (mg : Str → Option Value) (base : Heap) (k : Nat) (x : Str) (rE : Addr → Str → Addr → DTS) (n : Nat) : Prop where
  ex : ∃ f fd p, EFn P w K mg base k f fd p rE n ∧ mg x = some (.ref f) ∧ PySem.W.keepIn K (.ref f) = true ∧ Binds K fd [p] []
end Dl

namespace Dl
open PySem L2
section
variable {E : DEnds} {ρ : DSt} {G : GH} {Q : DK} {te ta tb : DTE} {tl : DTA} {tc tu tv : DTT} {Qb : Bool → GH → Prop}
end
end Dl

namespace Dl
open PySem L2
section
variable {X : Cx}
end
end Dl

namespace Dl
open PySem L2
end Dl

namespace Dl
open PySem L2
section
variable {X : Cx} {W : WX}
end
end Dl


namespace Dl
open PySem L2
def prsD (ps : List (D × D)) : List D := ps.map fun q => .tup [q.1, q.2]
@[simp] def rDictP : DRC := fun ds G Q => arg1 ds fun x => ∃ ps kvs, lsOf G x = some (prsD ps) ∧ keysD ps = some kvs ∧ ∀ p, G p = none → Q (.ref p) (updG G p (.dct (mergeD [] kvs)))
theorem pairs_at {K : PySem.W.Frag} {G : GH} {H : Hp} : ∀ {prs : List (D × D)} {xs : List V} {kvs : List (Key × D)}, RepL K G H (prsD prs) xs → keysD prs = some kvs →
    ∃ (ps : List Addr) (zs : List (Key × V)), xs = ps.map V.ref ∧ Paired (fun p kv => SqT K H p [kV kv.1, kv.2]) ps zs ∧ zs.map (·.1) = kvs.map (·.1) ∧ RepL K G H (kvs.map (·.2)) (zs.map (·.2))
  | [], xs, kvs, r, h => by
    simp only [keysD, Option.some.injEq] at h
    subst h
    unfold prsD at r
    rw [List.map_nil] at r
    unfold RepL at r
    subst r
    exact ⟨[], [], rfl, .nil, rfl, repL_nil⟩
  | q :: prs, xs, kvs, r, h => by
    unfold prsD at r
    rw [List.map_cons] at r
    unfold RepL at r
    obtain ⟨x, t, rfl, h1, h2⟩ := r
    unfold keysD at h
    cases hk : keyD q.1 with
    | none => simp only [hk] at h; cases h
    | some k =>
      simp only [hk, Option.map_eq_some_iff] at h
      obtain ⟨ks, h3, rfl⟩ := h
      obtain ⟨ps, zs, rfl, e2, e3, e4⟩ := pairs_at (prs := prs) h2 h3
      unfold RepV at h1
      obtain ⟨a, ys, rfl, ha, hy⟩ := h1
      obtain ⟨u, v, rfl, ru, rv⟩ := repL_2 hy
      have eu := key_rep ru hk
      subst eu
      exact ⟨a :: ps, (k, v) :: zs, rfl, .cons ha.sq e2, by simp [e3], repL_cons rv e4⟩
section
variable {X : Cx}
theorem c_dictP (hcalm : X.calm = true) : DCall X (.type "dict") rDictP := by
  intro pins s σ H xs us Q I r ⟨G, ds, q, g, rl, h0, k⟩
  obtain ⟨d, rfl, prs, kvs, e, hk, h⟩ := arg1_of h0
  obtain ⟨x, rfl, rx⟩ := repL_1 rl
  obtain ⟨a, xs, rfl, ha, rxs⟩ := ls_at g rx e
  obtain ⟨ps, zs, rfl, hp, z2, z3⟩ := pairs_at rxs hk
  refine call_dictP hcalm pins s σ H _ us Q I r ⟨a, ps, zs, rfl, SqL.of ha, hp, fun p hp => ?_⟩
  obtain ⟨m1, m2⟩ := merge_rep (acc := []) (bcc := []) z2 z3 rfl repL_nil
  have e3 : Ext G H (updG G p (.dct (mergeD [] kvs))) (upd H p (.dK (mergeK [] zs))) := Ext.newG hp
  exact k _ _ _ _ e3 (g.put e3 ⟨_, upd_same, m1, m2.ext e3⟩) ref_rv (h p (g.fresh hp))
end
end Dl

namespace K04
open PySem L2 Dl
abbrev CT : CTab := [("BarError", ["BarError"], []), ("PaperError", ["PaperError", "BarError"], []), ("WorkError", ["WorkError", "BarError"], []), ("LiveError", ["LiveError", "BarError"], []), ("TextError", ["TextError", "BarError"], []), ("InvalidPaper", ["InvalidPaper", "PaperError", "BarError"], ["word", "at"]), ("NotUsable", ["NotUsable", "WorkError", "BarError"], ["word", "at"]), ("NotNext", ["NotNext", "WorkError", "BarError"], ["sign", "at"]), ("InvalidText", ["InvalidText", "TextError", "BarError"], ["line", "field"]), ("InvalidRow", ["InvalidRow", "TextError", "BarError"], ["row"])]

def r_is_integer : DTS :=
  (dRet (dAndV (dIsi "int" (dVar 0)) (dNotV (dIsi "bool" (dVar 0)))))

def r_is_number (sp_is_integer : DSp) : DTS :=
  (dRet (dAndV (dCall sp_is_integer (dCons (dVar 0) dNil)) (dOp rGe (dVar 0) (dC (.int 0)))))

def r_inner_works : DTS :=
  (dSeq (dIfS (dTst (dOp (rInn id) (dOp rIx (dVar 0) (dC (.int 0))) (dTup (dCons (dC (.str "row")) (dCons (dC (.str "either")) dNil)))))
  (dRet (dFrz (dCB rLstC (dCons (dOp rIx (dVar 0) (dC (.int 1))) dNil))))
  dNext)
  (dSeq (dIfS (dTst (dOp rEqv (dOp rIx (dVar 0) (dC (.int 0))) (dC (.str "loop"))))
  (dRet (dFrz (dLst (dCons (dOp rIx (dVar 0) (dC (.int 4))) dNil))))
  dNext)
  (dRet (dIf (dTst (dOp rEqv (dOp rIx (dVar 0) (dC (.int 0))) (dC (.str "beside")))) (dFrz (dLst (dCons (dOp rIx (dVar 0) (dC (.int 1))) (dCons (dOp rIx (dVar 0) (dC (.int 2))) dNil)))) (dFrz (dLst dNil))))))

def r_inner_pairs (sp_inner_works : DSp) : DTS :=
  (dRet (dFrz (dLc (iEnL (dCall sp_inner_works (dCons (dVar 1) dNil))) (.tup [2, 3]) dYes (dTup (dCons (dTup (dStar (dVar 0) (dCons (dVar 2) dNil))) (dCons (dVar 3) dNil))) [2, 3])))

def r_require_usable : XTS :=
  (xIfS (xPt (dNot (dTru (dVar 0))))
  (xRaise "NotUsable" ["word", "at"] (xPa (dCons (dVar 1) (dCons (dVar 2) dNil))))
  (xPs dNext))

def r_all_pairs (sp_inner_pairs : DSp) : DTS :=
  (dSeq (dAsg (dLst dNil) (gNm 1))
  (dSeq (dAsg (dLst (dCons (dTup (dCons (dTup dNil) (dCons (dVar 0) dNil))) dNil)) (gNm 2))
  (dSeq (dWhile (dTst (dOp rGt (dCB rLen (dCons (dVar 2) dNil)) (dC (.int 0))))
  (dSeq (dAsg (dMt mPop (dVar 2) dNil) (gTp 2 (gsCons (gNm 3) (gsCons (gNm 4) gsNil))))
  (dSeq (dDrop (dMt mAppend (dVar 1) (dCons (dTup (dCons (dVar 3) (dCons (dVar 4) dNil))) dNil)))
  (dDrop (dMt mExtend (dVar 2) (dCons (dFrz (dRev (dCall sp_inner_pairs (dCons (dVar 3) (dCons (dVar 4) dNil))))) dNil))))))
  (dRet (dFrz (dVar 1))))))

def r_works_along (sp_is_number : DSp) (sp_inner_works : DSp) (sx_require_usable : DSp) : XTS :=
  (xSeq (xDrop (xCall sx_require_usable (xPa (dCons (dIsi "tuple" (dVar 1)) (dCons (dC (.str "path")) (dCons (dNeg (dC (.int 1))) dNil))))))
  (xSeq (xPs (dAsg (dLst (dCons (dVar 0) dNil)) (gNm 2)))
  (xSeq (xFor (iSq (dVar 1)) (gNm 3)
  (xSeq (xPs (dAsg (dCall sp_inner_works (dCons (dOp rIx (dVar 2) (dNeg (dC (.int 1)))) dNil)) (gNm 4)))
  (xSeq (xDrop (xCall sx_require_usable (xPa (dCons (dAndV (dCall sp_is_number (dCons (dVar 3) dNil)) (dOp rLt (dVar 3) (dCB rLen (dCons (dVar 4) dNil)))) (dCons (dC (.str "path")) (dCons (dNeg (dC (.int 1))) dNil))))))
  (xPs (dDrop (dMt mAppend (dVar 2) (dCons (dOp rIx (dVar 4) (dVar 3)) dNil)))))))
  (xPs (dRet (dFrz (dVar 2)))))))

def r_put_inner : DTS :=
  (dSeq (dAsg (dOp rIx (dVar 0) (dC (.int 0))) (gNm 3))
  (dSeq (dIfS (dTst (dOp rEqv (dVar 3) (dC (.str "loop"))))
  (dRet (dTup (dStar (dSl (dVar 0) dNoP (dP (dC (.int 4)))) (dCons (dVar 2) dNil))))
  dNext)
  (dSeq (dIfS (dTst (dOp rEqv (dVar 3) (dC (.str "beside"))))
  (dRet (dIf (dTst (dOp rEqv (dVar 1) (dC (.int 0)))) (dTup (dCons (dVar 3) (dCons (dVar 2) (dCons (dOp rIx (dVar 0) (dC (.int 2))) dNil)))) (dTup (dCons (dVar 3) (dCons (dOp rIx (dVar 0) (dC (.int 1))) (dCons (dVar 2) dNil))))))
  dNext)
  (dRet (dTup (dCons (dVar 3) (dCons (dTup (dStar (dSl (dOp rIx (dVar 0) (dC (.int 1))) dNoP (dP (dVar 1))) (dCons (dVar 2) (dStar (dSl (dOp rIx (dVar 0) (dC (.int 1))) (dP (dOp rAdd (dVar 1) (dC (.int 1)))) dNoP) dNil)))) dNil)))))))

def r_put_along (sp_put_inner : DSp) : DTS :=
  (dSeq (dFor (iZpM (dCons (dFrz (dRev (dVar 0))) (dCons (dRev (dVar 1)) dNil))) (gTp 2 (gsCons (gNm 3) (gsCons (gNm 4) gsNil)))
  (dAsg (dCall sp_put_inner (dCons (dVar 3) (dCons (dVar 4) (dCons (dVar 2) dNil)))) (gNm 2)))
  (dRet (dVar 2)))

def r_loops_of (sp_all_pairs : DSp) : DTS :=
  (dRet (dCB rTupC (dCons (dFrz (dLc (iSq (dCall sp_all_pairs (dCons (dVar 0) dNil))) (.tup [1, 2]) (dTst (dOp (rInn id) (dOp rIx (dVar 2) (dC (.int 0))) (dC (.tup [(.str "some"), (.str "loop")])))) (dVar 1) [1, 2])) dNil)))

def r_counted_along (sx_require_usable : DSp) (sx_works_along : DSp) : XTS :=
  (xSeq (xAsg (xCall sx_works_along (xPa (dCons (dVar 0) (dCons (dVar 1) dNil)))) (gNm 2))
  (xSeq (xDrop (xCall sx_require_usable (xPa (dCons (dOp (rInn id) (dOp rIx (dOp rIx (dVar 2) (dNeg (dC (.int 1)))) (dC (.int 0))) (dC (.tup [(.str "some"), (.str "loop")]))) (dCons (dC (.str "loop")) (dCons (dNeg (dC (.int 1))) dNil))))))
  (xPs (dRet (dVar 2)))))

def r_bounds_of (sx_counted_along : DSp) : XTS :=
  (xSeq (xAsg (xOp rIx (xCall sx_counted_along (xPa (dCons (dVar 0) (dCons (dVar 1) dNil)))) (xPe (dNeg (dC (.int 1))))) (gNm 2))
  (xPs (dRet (dTup (dCons (dOp rIx (dVar 2) (dC (.int 1))) (dCons (dOp rIx (dVar 2) (dC (.int 2))) dNil))))))

def r_with_told (sp_put_along : DSp) (sx_counted_along : DSp) : XTS :=
  (xSeq (xAsg (xCall sx_counted_along (xPa (dCons (dVar 0) (dCons (dVar 1) dNil)))) (gNm 3))
  (xSeq (xPs (dAsg (dOp rIx (dVar 3) (dNeg (dC (.int 1)))) (gNm 4)))
  (xPs (dRet (dCall sp_put_along (dCons (dFrz (dSl (dVar 3) dNoP (dP (dNeg (dC (.int 1)))))) (dCons (dVar 1) (dCons (dTup (dStar (dSl (dVar 4) dNoP (dP (dC (.int 3)))) (dCons (dVar 2) (dStar (dSl (dVar 4) (dP (dC (.int 4))) dNoP) dNil)))) dNil))))))))

def r_told_first (sx_with_told : DSp) : XTS :=
  (xRet (xCall sx_with_told (xPa (dCons (dVar 0) (dCons (dVar 1) (dCons (dC (.bl true)) dNil))))))

def r_told_last (sx_with_told : DSp) : XTS :=
  (xRet (xCall sx_with_told (xPa (dCons (dVar 0) (dCons (dVar 1) (dCons (dC (.bl false)) dNil))))))

def r_with_bounds (sp_put_along : DSp) (sp_is_number : DSp) (sx_require_usable : DSp) (sx_counted_along : DSp) : XTS :=
  (xSeq (xAsg (xCall sx_counted_along (xPa (dCons (dVar 0) (dCons (dVar 1) dNil)))) (gNm 4))
  (xSeq (xDrop (xCall sx_require_usable (xPa (dCons (dCall sp_is_number (dCons (dVar 2) dNil)) (dCons (dC (.str "least")) (dCons (dNeg (dC (.int 1))) dNil))))))
  (xSeq (xDrop (xCall sx_require_usable (xPa (dCons (dAndV (dCall sp_is_number (dCons (dVar 3) dNil)) (dOp rLe (dVar 2) (dVar 3))) (dCons (dC (.str "most")) (dCons (dNeg (dC (.int 1))) dNil))))))
  (xSeq (xPs (dAsg (dOp rIx (dVar 4) (dNeg (dC (.int 1)))) (gNm 5)))
  (xPs (dRet (dCall sp_put_along (dCons (dFrz (dSl (dVar 4) dNoP (dP (dNeg (dC (.int 1)))))) (dCons (dVar 1) (dCons (dTup (dCons (dOp rIx (dVar 5) (dC (.int 0))) (dCons (dVar 2) (dCons (dVar 3) (dStar (dSl (dVar 5) (dP (dC (.int 3))) dNoP) dNil))))) dNil))))))))))

def r_is_path_of (sp_is_number : DSp) : DTS :=
  (dRet (dAndV (dIsi "tuple" (dVar 1)) (dAndV (dCB rAllC (dCons (dFrz (dLc (iSq (dVar 1)) (.one 2) dYes (dCall sp_is_number (dCons (dVar 2) dNil)) [2])) dNil)) (dOp (rInT id) (dVar 1) (dVar 0)))))

def r_told_at (sp_is_path_of : DSp) (sp_loops_of : DSp) (sx_with_told : DSp) (sx_require_usable : DSp) : XTS :=
  (xSeq (xDrop (xCall sx_require_usable (xPa (dCons (dIsi "tuple" (dVar 1)) (dCons (dC (.str "paths")) (dCons (dNeg (dC (.int 1))) dNil))))))
  (xSeq (xPs (dAsg (dCall sp_loops_of (dCons (dVar 0) dNil)) (gNm 2)))
  (xSeq (xFor (iEnT (dVar 1)) (gTp 2 (gsCons (gNm 3) (gsCons (gNm 4) gsNil)))
  (xDrop (xCall sx_require_usable (xPa (dCons (dCall sp_is_path_of (dCons (dVar 2) (dCons (dVar 4) dNil))) (dCons (dC (.str "loop")) (dCons (dVar 3) dNil)))))))
  (xSeq (xPs (dAsg (dVar 0) (gNm 5)))
  (xSeq (xFor (iSq (dVar 1)) (gNm 4)
  (xAsg (xCall sx_with_told (xPa (dCons (dVar 5) (dCons (dVar 4) (dCons (dC (.bl true)) dNil))))) (gNm 5)))
  (xPs (dRet (dVar 5))))))))

def r_law_feed : DTS :=
  (dRet (dDisp [((dC (.str "cells")), (dFrz (dCB rLstC (dCons (dFrz (dSl (dVar 0) dNoP (dP (dC (.int 63))))) dNil)))), ((dC (.str "at")), (dC (.int 0))), ((dC (.str "left")), (dC (.int 0))), ((dC (.str "count")), (dC (.int 0)))]))

def r_law_draw : DTS :=
  (dSeq (dAsg (dOp rAdd (dDGet (dVar 0) (dC (.str "count"))) (dC (.int 1))) (gSb (dVar 0) (dC (.str "count")) sDct))
  (dSeq (dIfS (dTst (dOp rGt (dDGet (dVar 0) (dC (.str "left"))) (dC (.int 0))))
  (dSeq (dAsg (dOp rMod (dCB rIntC (dCons (dDGet (dVar 0) (dC (.str "left"))) dNil)) (dVar 1)) (gNm 2))
  (dSeq (dAsg (dOp rFdiv (dDGet (dVar 0) (dC (.str "left"))) (dVar 1)) (gSb (dVar 0) (dC (.str "left")) sDct))
  (dRet (dVar 2))))
  dNext)
  (dSeq (dAsg (dDGet (dVar 0) (dC (.str "at"))) (gNm 3))
  (dSeq (dAsg (dOp rAdd (dVar 3) (dC (.int 1))) (gSb (dVar 0) (dC (.str "at")) sDct))
  (dSeq (dAsg (dIf (dTst (dOp rNev (dDGet (dVar 0) (dC (.str "cells"))) (dFrz (dLst dNil)))) (dOp rIx (dDGet (dVar 0) (dC (.str "cells"))) (dOp rMod (dCB rIntC (dCons (dVar 3) dNil)) (dCB rLen (dCons (dDGet (dVar 0) (dC (.str "cells"))) dNil)))) (dC (.int 53))) (gNm 4))
  (dSeq (dIfS (dAnd (dTst (dOp rGe (dVar 4) (dOp rPow (dC (.int 10)) (dC (.int 18))))) (dTst (dOp rLt (dVar 3) (dCB rLen (dCons (dDGet (dVar 0) (dC (.str "cells"))) dNil)))))
  (dSeq (dAsg (dOp rFdiv (dVar 4) (dVar 1)) (gSb (dVar 0) (dC (.str "left")) sDct))
  (dRet (dOp rMod (dCB rIntC (dCons (dVar 4) dNil)) (dVar 1))))
  dNext)
  (dSeq (dAsg (dOp rMod (dCB rIntC (dCons (dOp rAdd (dOp rAdd (dOp rMod (dCB rIntC (dCons (dVar 4) dNil)) (dC (.int 1000000487))) (dOp rMul (dC (.int 240007)) (dDGet (dVar 0) (dC (.str "count"))))) (dC (.int 103))) dNil)) (dC (.int 2147482937))) (gNm 5))
  (dSeq (dAsg (dOp rMod (dCB rIntC (dCons (dOp rAdd (dOp rAdd (dOp rMul (dVar 5) (dVar 5)) (dOp rMul (dC (.int 5300003)) (dDGet (dVar 0) (dC (.str "count"))))) (dC (.int 61))) dNil)) (dC (.int 2147482921))) (gNm 5))
  (dRet (dOp rMod (dCB rIntC (dCons (dOp rFdiv (dOp rMod (dCB rIntC (dCons (dOp rAdd (dOp rMul (dVar 5) (dVar 5)) (dOp rMul (dC (.int 107)) (dVar 5))) dNil)) (dC (.int 2147482859))) (dC (.int 16))) dNil)) (dVar 1)))))))))))

def r_law_subs : DTS :=
  (dSeq (dIfS (dTst (dOp (rInn id) (dOp rIx (dVar 0) (dC (.int 0))) (dTup (dCons (dC (.str "row")) (dCons (dC (.str "either")) dNil)))))
  (dRet (dCB rLstC (dCons (dOp rIx (dVar 0) (dC (.int 1))) dNil)))
  dNext)
  (dSeq (dIfS (dTst (dOp rEqv (dOp rIx (dVar 0) (dC (.int 0))) (dC (.str "beside"))))
  (dRet (dLst (dCons (dOp rIx (dVar 0) (dC (.int 1))) (dCons (dOp rIx (dVar 0) (dC (.int 2))) dNil))))
  dNext)
  (dRet (dIf (dTst (dOp rEqv (dOp rIx (dVar 0) (dC (.int 0))) (dC (.str "loop")))) (dLst (dCons (dOp rIx (dVar 0) (dC (.int 4))) dNil)) (dLst dNil)))))

def r_law_all (sp_law_all : DSp) (sp_law_subs : DSp) : DTS :=
  (dSeq (dPar 2 3 (dCons (dLst (dCons (dTup (dCons (dVar 1) (dCons (dVar 0) dNil))) dNil)) (dCons (dFrz (dCall sp_law_subs (dCons (dVar 0) dNil))) dNil)))
  (dSeq (dFor (iRg1 (dCons (dCB rLen (dCons (dVar 3) dNil)) dNil)) (gNm 4)
  (dDrop (dMt mExtend (dVar 2) (dCons (dCall sp_law_all (dCons (dOp rIx (dVar 3) (dVar 4)) (dCons (dOp rAdd (dVar 1) (dTup (dCons (dVar 4) dNil))) dNil))) dNil))))
  (dRet (dFrz (dVar 2)))))

def r_law_put (sp_law_put : DSp) (sp_law_subs : DSp) : DTS :=
  (dSeq (dIfS (dTst (dOp rEqv (dVar 1) (dTup dNil)))
  (dRet (dVar 2))
  dNext)
  (dSeq (dPar 3 4 (dCons (dOp rIx (dVar 1) (dC (.int 0))) (dCons (dCall sp_law_subs (dCons (dVar 0) dNil)) dNil)))
  (dSeq (dAsg (dCall sp_law_put (dCons (dOp rIx (dVar 4) (dVar 3)) (dCons (dSl (dVar 1) (dP (dC (.int 1))) dNoP) (dCons (dVar 2) dNil)))) (gSb (dVar 4) (dVar 3) sLst))
  (dSeq (dIfS (dTst (dOp (rInn id) (dOp rIx (dVar 0) (dC (.int 0))) (dTup (dCons (dC (.str "row")) (dCons (dC (.str "either")) dNil)))))
  (dRet (dTup (dCons (dOp rIx (dVar 0) (dC (.int 0))) (dCons (dCB rTupC (dCons (dVar 4) dNil)) dNil))))
  dNext)
  (dRet (dIf (dTst (dOp rEqv (dOp rIx (dVar 0) (dC (.int 0))) (dC (.str "loop")))) (dOp rAdd (dSl (dVar 0) dNoP (dP (dC (.int 4)))) (dTup (dCons (dOp rIx (dVar 4) (dC (.int 0))) dNil))) (dTup (dCons (dOp rIx (dVar 0) (dC (.int 0))) (dCons (dOp rIx (dVar 4) (dC (.int 0))) (dCons (dOp rIx (dVar 4) (dC (.int 1))) dNil))))))))))

def r_law_fewest (sp_law_subs : DSp) (sp_law_fewest : DSp) : DTS :=
  (dSeq (dIfS (dTst (dOp (rInn id) (dOp rIx (dVar 0) (dC (.int 0))) (dTup (dCons (dC (.str "tick")) (dCons (dC (.str "some")) dNil)))))
  (dRet (dOp rIx (dVar 0) (dC (.int 1))))
  dNext)
  (dSeq (dAsg (dFrz (dLc (iSq (dFrz (dCall sp_law_subs (dCons (dVar 0) dNil)))) (.one 2) dYes (dCall sp_law_fewest (dCons (dVar 2) dNil)) [2])) (gNm 1))
  (dSeq (dIfS (dTst (dOp rEqv (dOp rIx (dVar 0) (dC (.int 0))) (dC (.str "either"))))
  (dRet (dCB rMinC (dCons (dVar 1) dNil)))
  dNext)
  (dRet (dIf (dTst (dOp rEqv (dOp rIx (dVar 0) (dC (.int 0))) (dC (.str "loop")))) (dOp rMul (dOp rIx (dVar 0) (dC (.int 1))) (dOp rIx (dVar 1) (dC (.int 0)))) (dCB rSumC (dCons (dVar 1) dNil)))))))

def r_law_bounds (sp_law_draw : DSp) : DTS :=
  (dSeq (dAsg (dOp rIx (dFrz (dLst (dCons (dC (.int 0)) (dCons (dC (.int 1)) (dCons (dC (.int 1)) (dCons (dC (.int 2)) (dCons (dC (.int 5)) dNil))))))) (dCall sp_law_draw (dCons (dVar 0) (dCons (dC (.int 5)) dNil)))) (gNm 1))
  (dRet (dTup (dCons (dVar 1) (dCons (dOp rAdd (dVar 1) (dOp rIx (dFrz (dLst (dCons (dC (.int 0)) (dCons (dC (.int 1)) (dCons (dC (.int 2)) (dCons (dC (.int 7)) dNil)))))) (dCall sp_law_draw (dCons (dVar 0) (dCons (dC (.int 4)) dNil))))) (dCons (dOp rEqv (dCall sp_law_draw (dCons (dVar 0) (dCons (dC (.int 2)) dNil))) (dC (.int 0))) dNil))))))

def r_law_free_work (sp_law_free_work : DSp) (sp_law_draw : DSp) (sp_law_bounds : DSp) : DTS :=
  (dSeq (dAsg (dIf (dTst (dOp rGt (dVar 1) (dC (.int 0)))) (dCall sp_law_draw (dCons (dVar 0) (dCons (dC (.int 9)) dNil))) (dCall sp_law_draw (dCons (dVar 0) (dCons (dC (.int 4)) dNil)))) (gNm 2))
  (dSeq (dIfS (dTst (dOp rLt (dVar 2) (dC (.int 2))))
  (dRet (dTup (dCons (dC (.str "tick")) (dCons (dOp rAdd (dC (.int 1)) (dOp rIx (dFrz (dLst (dCons (dC (.int 0)) (dCons (dC (.int 1)) (dCons (dC (.int 2)) (dCons (dC (.int 11)) dNil)))))) (dCall sp_law_draw (dCons (dVar 0) (dCons (dC (.int 4)) dNil))))) dNil))))
  dNext)
  (dSeq (dIfS (dTst (dOp rLt (dVar 2) (dC (.int 4))))
  (dRet (dOp rAdd (dTup (dCons (dC (.str "some")) dNil)) (dCall sp_law_bounds (dCons (dVar 0) dNil))))
  dNext)
  (dSeq (dIfS (dTst (dOp rLt (dVar 2) (dC (.int 6))))
  (dRet (dOp rAdd (dOp rAdd (dTup (dCons (dC (.str "loop")) dNil)) (dCall sp_law_bounds (dCons (dVar 0) dNil))) (dTup (dCons (dCall sp_law_free_work (dCons (dVar 0) (dCons (dOp rSub (dVar 1) (dC (.int 1))) dNil))) dNil))))
  dNext)
  (dSeq (dIfS (dTst (dOp rEqv (dVar 2) (dC (.int 8))))
  (dRet (dTup (dCons (dC (.str "beside")) (dCons (dCall sp_law_free_work (dCons (dVar 0) (dCons (dOp rSub (dVar 1) (dC (.int 1))) dNil))) (dCons (dCall sp_law_free_work (dCons (dVar 0) (dCons (dOp rSub (dVar 1) (dC (.int 1))) dNil))) dNil)))))
  dNext)
  (dSeq (dAsg (dIf (dTst (dOp rEqv (dVar 2) (dC (.int 6)))) (dCall sp_law_draw (dCons (dVar 0) (dCons (dC (.int 4)) dNil))) (dOp rAdd (dC (.int 1)) (dCall sp_law_draw (dCons (dVar 0) (dCons (dC (.int 3)) dNil))))) (gNm 3))
  (dSeq (dAsg (dCB rTupC (dCons (dFrz (dLc (iRg1 (dCons (dVar 3) dNil)) (.one 5) dYes (dCall sp_law_free_work (dCons (dVar 0) (dCons (dOp rSub (dVar 1) (dC (.int 1))) dNil))) [5])) dNil)) (gNm 4))
  (dRet (dTup (dCons (dOp rIx (dFrz (dLst (dCons (dC (.str "row")) (dCons (dC (.str "either")) dNil)))) (dOp rSub (dVar 2) (dC (.int 6)))) (dCons (dVar 4) dNil)))))))))))

def r_law_work (sp_law_fewest : DSp) (sp_law_free_work : DSp) : DTS :=
  (dSeq (dAsg (dCall sp_law_free_work (dCons (dVar 0) (dCons (dVar 1) dNil))) (gNm 2))
  (dRet (dIf (dTst (dOp rGt (dCall sp_law_fewest (dCons (dVar 2) dNil)) (dC (.int 0)))) (dVar 2) (dTup (dCons (dC (.str "row")) (dCons (dTup (dCons (dTup (dCons (dC (.str "tick")) (dCons (dC (.int 1)) dNil))) (dCons (dVar 2) dNil))) dNil))))))

def r_law_first : DTS :=
  (dRet (dTup (dCons (dC (.str "row")) (dCons (dTup (dCons (dTup (dCons (dC (.str "tick")) (dCons (dC (.int 2)) dNil))) (dCons (dTup (dCons (dC (.str "loop")) (dCons (dC (.int 1)) (dCons (dC (.int 3)) (dCons (dC (.bl false)) (dCons (dTup (dCons (dC (.str "tick")) (dCons (dC (.int 2)) dNil))) dNil)))))) dNil))) dNil))))

def r_law_second : DTS :=
  (dSeq (dAsg (dTup (dCons (dC (.str "some")) (dCons (dC (.int 0)) (dCons (dC (.int 4)) (dCons (dC (.bl true)) dNil))))) (gNm 0))
  (dSeq (dAsg (dTup (dCons (dC (.str "loop")) (dCons (dC (.int 2)) (dCons (dC (.int 2)) (dCons (dC (.bl false)) (dCons (dTup (dCons (dC (.str "some")) (dCons (dC (.int 1)) (dCons (dC (.int 1)) (dCons (dC (.bl false)) dNil))))) dNil)))))) (gNm 1))
  (dSeq (dAsg (dTup (dCons (dC (.str "either")) (dCons (dTup (dCons (dTup (dCons (dC (.str "loop")) (dCons (dC (.int 0)) (dCons (dC (.int 3)) (dCons (dC (.bl true)) (dCons (dTup (dCons (dC (.str "beside")) (dCons (dTup (dCons (dC (.str "tick")) (dCons (dC (.int 1)) dNil))) (dCons (dTup (dCons (dC (.str "row")) (dCons (dTup dNil) dNil))) dNil)))) dNil)))))) (dCons (dTup (dCons (dC (.str "tick")) (dCons (dC (.int 7)) dNil))) (dCons (dVar 0) dNil)))) dNil))) (gNm 2))
  (dRet (dTup (dCons (dC (.str "beside")) (dCons (dTup (dCons (dC (.str "row")) (dCons (dTup (dCons (dTup (dCons (dC (.str "tick")) (dCons (dC (.int 1)) dNil))) (dCons (dTup (dCons (dC (.str "row")) (dCons (dTup dNil) dNil))) (dCons (dVar 0) dNil)))) dNil))) (dCons (dTup (dCons (dC (.str "either")) (dCons (dTup (dCons (dVar 1) (dCons (dTup (dCons (dC (.str "tick")) (dCons (dC (.int 12)) dNil))) (dCons (dVar 2) dNil)))) dNil))) dNil))))))))

def r_law_heard (α : Dl.Act) : DTS :=
  (dTry CT "BarError" 1 (xRet (xTup (xCons (xPe (dC (.str "told"))) (xCons (xAct 0 α) (xPa dNil))))) (fun a c d =>
  (dSeq (dAsg (dLst (dCons (dIsX CT a c d (dVar 1) "PaperError") (dCons (dIsX CT a c d (dVar 1) "WorkError") dNil))) (gNm 2))
  (dSeq (dDrop (dMt mExtend (dVar 2) (dCons (dFrz (dLst (dCons (dIsX CT a c d (dVar 1) "LiveError") (dCons (dIsX CT a c d (dVar 1) "TextError") dNil)))) dNil)))
  (dSeq (dIfS (dAnd (dTst (dOp rEqv (dVar 2) (dFrz (dLst (dCons (dC (.bl true)) (dCons (dC (.bl false)) (dCons (dC (.bl false)) (dCons (dC (.bl false)) dNil)))))))) (dTru (dIsX CT a c d (dVar 1) "InvalidPaper")))
  (dRet (dTup (dCons (dC (.str "paper")) (dCons (dExf CT a c d (dVar 1) "word") (dCons (dExf CT a c d (dVar 1) "at") dNil)))))
  dNext)
  (dSeq (dIfS (dTst (dOp rEqv (dVar 2) (dFrz (dLst (dCons (dC (.bl false)) (dCons (dC (.bl false)) (dCons (dC (.bl false)) (dCons (dC (.bl true)) dNil))))))))
  (dSeq (dAsg (dAndV (dIsX CT a c d (dVar 1) "InvalidText") (dNotV (dIsX CT a c d (dVar 1) "InvalidRow"))) (gNm 3))
  (dRet (dIf (dTru (dVar 3)) (dTup (dCons (dC (.str "text")) (dCons (dExf CT a c d (dVar 1) "line") (dCons (dExf CT a c d (dVar 1) "field") dNil)))) (dTup (dCons (dC (.str "odd")) dNil)))))
  dNext)
  (dSeq (dIfS (dOr (dTst (dOp rNev (dVar 2) (dFrz (dLst (dCons (dC (.bl false)) (dCons (dC (.bl true)) (dCons (dC (.bl false)) (dCons (dC (.bl false)) dNil)))))))) (dTru (dIsX CT a c d (dVar 1) "NotNext")))
  (dRet (dTup (dCons (dC (.str "odd")) dNil)))
  dNext)
  (dRet (dIf (dTru (dIsX CT a c d (dVar 1) "NotUsable")) (dTup (dCons (dC (.str "use")) (dCons (dExf CT a c d (dVar 1) "word") (dCons (dExf CT a c d (dVar 1) "at") dNil)))) (dTup (dCons (dC (.str "odd")) dNil)))))))))))

def r_law_strays_in : DTS :=
  (dSeq (dAsg (dLst (dCons (dC .non) (dCons (dC (.int 0)) (dCons (dC (.bl true)) (dCons (dC (.str "")) (dCons (dFrz (dLst dNil)) (dCons (dC (.str "0")) (dCons (dTup (dCons (dNeg (dC (.int 1))) dNil)) (dCons (dTup (dCons (dC .non) dNil)) (dCons (dTup (dCons (dC (.bl true)) dNil)) (dCons (dTup (dCons (dC (.str "0")) dNil)) (dCons (dTup (dCons (dC (.int 60)) dNil)) (dCons (dTup (dCons (dTup (dCons (dC (.int 0)) dNil)) dNil)) (dCons (dTup (dCons (dOp rPow (dC (.int 10)) (dC (.int 59))) dNil)) (dCons (dFrz (dLst (dCons (dC (.int 0)) dNil))) dNil))))))))))))))) (gNm 1))
  (dSeq (dFor (iSq (dVar 0)) (gNm 2)
  (dDrop (dMt mExtend (dVar 1) (dCons (dFrz (dLst (dCons (dOp rAdd (dVar 2) (dTup (dCons (dC (.int 0)) dNil))) (dCons (dOp rAdd (dVar 2) (dTup (dCons (dC (.bl false)) dNil))) (dCons (dOp rAdd (dVar 2) (dTup (dCons (dC (.int 3)) dNil))) (dCons (dFrz (dCB rLstC (dCons (dVar 2) dNil))) dNil)))))) dNil))))
  (dSeq (dAsg (dFrz (dLc (iSq (dVar 0)) (.one 2) dYes (dCB rReprA (dCons (dVar 2) dNil)) [2])) (gNm 3))
  (dRet (dFrz (dLc (iSq (dVar 1)) (.one 4) (dTst (dOp (rInn not) (dCB rReprA (dCons (dVar 4) dNil)) (dVar 3))) (dVar 4) [4]))))))

def r_law_loops (sp_law_all : DSp) : DTS :=
  (dRet (dFrz (dLc (iSq (dCall sp_law_all (dCons (dVar 0) (dCons (dTup dNil) dNil)))) (.tup [1, 2]) (dTst (dOp (rInn id) (dOp rIx (dVar 2) (dC (.int 0))) (dTup (dCons (dC (.str "some")) (dCons (dC (.str "loop")) dNil))))) (dVar 1) [1, 2])))

def r_law_told (sp_law_put : DSp) (sp_law_all : DSp) : DTS :=
  (dSeq (dAsg (dDGet (dCB rDictP (dCons (dFrz (dLc (iSq (dCall sp_law_all (dCons (dVar 0) (dCons (dTup dNil) dNil)))) (.tup [4, 5]) dYes (dTup (dCons (dCB rRepr (dCons (dVar 4) dNil)) (dCons (dVar 5) dNil))) [4, 5])) dNil)) (dCB rRepr (dCons (dVar 1) dNil))) (gNm 3))
  (dRet (dCall sp_law_put (dCons (dVar 0) (dCons (dVar 1) (dCons (dOp rAdd (dOp rAdd (dSl (dVar 3) dNoP (dP (dC (.int 3)))) (dTup (dCons (dVar 2) dNil))) (dSl (dVar 3) (dP (dC (.int 4))) dNoP)) dNil))))))

def r_law_right (sp_told_at : DSp) (sp_law_told : DSp) (sp_law_draw : DSp) (sp_with_bounds : DSp) (sp_law_put : DSp) (sp_told_last : DSp) (sp_told_first : DSp) (sp_bounds_of : DSp) (sp_law_all : DSp) (sp_loops_of : DSp) (sp_law_loops : DSp) : DTS :=
  (dSeq (dAsg (dCall sp_law_loops (dCons (dVar 1) dNil)) (gNm 2))
  (dSeq (dIfS (dTst (dOp rNev (dCB rRepr (dCons (dCall sp_loops_of (dCons (dVar 1) dNil)) dNil)) (dCB rRepr (dCons (dCB rTupC (dCons (dVar 2) dNil)) dNil))))
  (dRet (dC (.bl false)))
  dNext)
  (dSeq (dFor (iSq (dVar 2)) (gNm 3)
  (dSeq (dAsg (dOp rIx (dFrz (dLc (iSq (dCall sp_law_all (dCons (dVar 1) (dCons (dTup dNil) dNil)))) (.tup [5, 6]) (dTst (dOp rEqv (dVar 5) (dVar 3))) (dVar 6) [5, 6])) (dC (.int 0))) (gNm 4))
  (dSeq (dAsg (dFrz (dLst (dCons (dCall sp_bounds_of (dCons (dVar 1) (dCons (dVar 3) dNil))) (dCons (dCall sp_told_first (dCons (dVar 1) (dCons (dVar 3) dNil))) (dCons (dCall sp_told_last (dCons (dVar 1) (dCons (dVar 3) dNil))) dNil))))) (gNm 7))
  (dSeq (dIfS (dTst (dOp rNev (dCB rRepr (dCons (dVar 7) dNil)) (dCB rRepr (dCons (dFrz (dLst (dCons (dSl (dVar 4) (dP (dC (.int 1))) (dP (dC (.int 3)))) (dCons (dCall sp_law_told (dCons (dVar 1) (dCons (dVar 3) (dCons (dC (.bl true)) dNil)))) (dCons (dCall sp_law_told (dCons (dVar 1) (dCons (dVar 3) (dCons (dC (.bl false)) dNil)))) dNil))))) dNil))))
  (dRet (dC (.bl false)))
  dNext)
  (dFor (iSq (dTup (dCons (dTup (dCons (dC (.int 0)) (dCons (dC (.int 0)) dNil))) (dCons (dTup (dCons (dC (.int 0)) (dCons (dC (.int 9)) dNil))) (dCons (dTup (dCons (dC (.int 3)) (dCons (dC (.int 3)) dNil))) (dCons (dTup (dCons (dOp rIx (dVar 4) (dC (.int 1))) (dCons (dOp rAdd (dOp rIx (dVar 4) (dC (.int 2))) (dC (.int 1))) dNil))) (dCons (dTup (dCons (dOp rPow (dC (.int 10)) (dC (.int 59))) (dCons (dOp rPow (dC (.int 10)) (dC (.int 59))) dNil))) dNil))))))) (gTp 2 (gsCons (gNm 8) (gsCons (gNm 9) gsNil)))
  (dSeq (dAsg (dCall sp_law_put (dCons (dVar 1) (dCons (dVar 3) (dCons (dOp rAdd (dTup (dCons (dOp rIx (dVar 4) (dC (.int 0))) (dCons (dVar 8) (dCons (dVar 9) dNil)))) (dSl (dVar 4) (dP (dC (.int 3))) dNoP)) dNil)))) (gNm 6))
  (dIfS (dTst (dOp rNev (dCB rRepr (dCons (dCall sp_with_bounds (dCons (dVar 1) (dCons (dVar 3) (dCons (dVar 8) (dCons (dVar 9) dNil))))) dNil)) (dCB rRepr (dCons (dVar 6) dNil))))
  (dRet (dC (.bl false)))
  dNext)))))))
  (dSeq (dFor (iRg1 (dCons (dC (.int 4)) dNil)) (gNm 10)
  (dSeq (dPar 11 6 (dCons (dLst dNil) (dCons (dVar 1) dNil)))
  (dSeq (dFor (iRg1 (dCons (dCall sp_law_draw (dCons (dVar 0) (dCons (dC (.int 5)) dNil))) dNil)) (gNm 12)
  (dIfS (dTst (dOp rNev (dVar 2) (dFrz (dLst dNil))))
  (dDrop (dMt mAppend (dVar 11) (dCons (dOp rIx (dVar 2) (dCall sp_law_draw (dCons (dVar 0) (dCons (dCB rLen (dCons (dVar 2) dNil)) dNil)))) dNil)))
  dNext))
  (dSeq (dFor (iSq (dVar 11)) (gNm 3)
  (dAsg (dCall sp_law_told (dCons (dVar 6) (dCons (dVar 3) (dCons (dC (.bl true)) dNil)))) (gNm 6)))
  (dIfS (dTst (dOp rNev (dCB rRepr (dCons (dCall sp_told_at (dCons (dVar 1) (dCons (dCB rTupC (dCons (dVar 11) dNil)) dNil))) dNil)) (dCB rRepr (dCons (dVar 6) dNil))))
  (dRet (dC (.bl false)))
  dNext)))))
  (dRet (dC (.bl true)))))))

def r_law_strays_right (Tb : Addr) (φ0 φ1 φ2 φ3 : Phi) (sp_law_strays_in : DSp) (sp_law_loops : DSp) (sp_law_all : DSp) (sx_with_bounds : DSp) (sx_told_at : DSp) (sx_bounds_of : DSp) (sx_told_first : DSp) (sx_told_last : DSp) : DTS :=
  (dSeq (dAsg (dTup (dCons (dCall sp_law_all (dCons (dVar 0) (dCons (dTup dNil) dNil))) (dCons (dCall sp_law_loops (dCons (dVar 0) dNil)) dNil))) (gTp 2 (gsCons (gNm 2) (gsCons (gNm 3) gsNil))))
  (dSeq (dAsg (dLc (iSq (dFrz (dStep (dCall sp_law_strays_in (dCons (dFrz (dLc (iSq (dVar 2)) (.tup [6, 7]) dYes (dVar 6) [6, 7])) dNil)) (dVar 1) (dC (.int 2))))) (.one 5) dYes (dTup (dCons (dVar 5) (dCons (dC (.str "path")) dNil))) [5]) (gNm 4))
  (dSeq (dDrop (dMt mExtend (dVar 4) (dCons (dFrz (dLc (iSq (dVar 2)) (.tup [6, 5]) (dTst (dOp (rInn not) (dOp rIx (dVar 5) (dC (.int 0))) (dTup (dCons (dC (.str "some")) (dCons (dC (.str "loop")) dNil))))) (dTup (dCons (dVar 6) (dCons (dC (.str "loop")) dNil))) [6, 5])) dNil)))
  (dSeq (dFor (iSq (dVar 4)) (gTp 2 (gsCons (gNm 8) (gsCons (gNm 9) gsNil)))
  (dSeq (dAsg (dLst (dCons (dLam Tb "_law_strays_right.<locals>.<lambda>" φ0) dNil)) (gNm 10))
  (dSeq (dDrop (dMt mAppend (dVar 10) (dCons (dLam Tb "_law_strays_right.<locals>.<lambda>" φ1) dNil)))
  (dSeq (dDrop (dMt mAppend (dVar 10) (dCons (dLam Tb "_law_strays_right.<locals>.<lambda>" φ2) dNil)))
  (dSeq (dDrop (dMt mAppend (dVar 10) (dCons (dLam Tb "_law_strays_right.<locals>.<lambda>" φ3) dNil)))
  (dSeq (dIfS (dTst (dOp rNev (dFrz (dAsks (iSq (dVar 10)) r_law_heard 4 [⟨"_law_strays_right.<locals>.<lambda>", φ0, (xCall sx_bounds_of (xPa (dCons (dVar 0) (dCons (dVar 8) dNil))))⟩, ⟨"_law_strays_right.<locals>.<lambda>", φ1, (xCall sx_told_first (xPa (dCons (dVar 0) (dCons (dVar 8) dNil))))⟩, ⟨"_law_strays_right.<locals>.<lambda>", φ2, (xCall sx_told_last (xPa (dCons (dVar 0) (dCons (dVar 8) dNil))))⟩, ⟨"_law_strays_right.<locals>.<lambda>", φ3, (xCall sx_with_bounds (xPa (dCons (dVar 0) (dCons (dVar 8) (dCons (dC .non) (dCons (dC .non) dNil))))))⟩] rNev (dTup (dCons (dC (.str "use")) (dCons (dVar 9) (dCons (dNeg (dC (.int 1))) dNil)))) 11 [11])) (dFrz (dLst dNil))))
  (dRet (dC (.bl false)))
  dNext)
  (dIfS (dTst (dOp rNev (dHearL Tb "_law_strays_right.<locals>.<lambda>" r_law_heard 4 (xCall sx_told_at (xPa (dCons (dVar 0) (dCons (dOp rAdd (dCB rTupC (dCons (dVar 3) dNil)) (dTup (dCons (dVar 8) (dCons (dC .non) dNil)))) dNil))))) (dTup (dCons (dC (.str "use")) (dCons (dC (.str "loop")) (dCons (dCB rLen (dCons (dVar 3) dNil)) dNil))))))
  (dRet (dC (.bl false)))
  dNext)))))))
  (dSeq (dFor (iSq (dFrz (dStep (dFrz (dLst (dCons (dC .non) (dCons (dC (.int 0)) (dCons (dC (.str "")) (dCons (dFrz (dLst dNil)) (dCons (dFrz (dCB rLstC (dCons (dVar 3) dNil))) (dCons (dC (.str "ab")) (dCons (dC (.bl true)) dNil))))))))) (dVar 1) (dC (.int 2))))) (gNm 8)
  (dIfS (dTst (dOp rNev (dHearL Tb "_law_strays_right.<locals>.<lambda>" r_law_heard 4 (xCall sx_told_at (xPa (dCons (dVar 0) (dCons (dVar 8) dNil))))) (dTup (dCons (dC (.str "use")) (dCons (dC (.str "paths")) (dCons (dNeg (dC (.int 1))) dNil))))))
  (dRet (dC (.bl false)))
  dNext))
  (dSeq (dIfS (dTst (dOp rEqv (dVar 3) (dFrz (dLst dNil))))
  (dRet (dC (.bl true)))
  dNext)
  (dSeq (dFor (iSq (dFrz (dStep (dFrz (dLst (dCons (dNeg (dC (.int 1))) (dCons (dC .non) (dCons (dC (.bl true)) (dCons (dC (.str "0")) (dCons (dTup (dCons (dC (.int 0)) dNil)) (dCons (dFrz (dLst (dCons (dC (.int 0)) dNil))) (dCons (dNeg (dOp rPow (dC (.int 10)) (dC (.int 59)))) dNil))))))))) (dVar 1) (dC (.int 2))))) (gNm 8)
  (dSeq (dIfS (dTst (dOp rNev (dHearL Tb "_law_strays_right.<locals>.<lambda>" r_law_heard 4 (xCall sx_with_bounds (xPa (dCons (dVar 0) (dCons (dOp rIx (dVar 3) (dNeg (dC (.int 1)))) (dCons (dVar 8) (dCons (dC .non) dNil))))))) (dTup (dCons (dC (.str "use")) (dCons (dC (.str "least")) (dCons (dNeg (dC (.int 1))) dNil))))))
  (dRet (dC (.bl false)))
  dNext)
  (dIfS (dTst (dOp rNev (dHearL Tb "_law_strays_right.<locals>.<lambda>" r_law_heard 4 (xCall sx_with_bounds (xPa (dCons (dVar 0) (dCons (dOp rIx (dVar 3) (dNeg (dC (.int 1)))) (dCons (dC (.int 0)) (dCons (dVar 8) dNil))))))) (dTup (dCons (dC (.str "use")) (dCons (dC (.str "most")) (dCons (dNeg (dC (.int 1))) dNil))))))
  (dRet (dC (.bl false)))
  dNext)))
  (dRet (dOp rEqv (dHearL Tb "_law_strays_right.<locals>.<lambda>" r_law_heard 4 (xCall sx_with_bounds (xPa (dCons (dVar 0) (dCons (dOp rIx (dVar 3) (dC (.int 0))) (dCons (dC (.int 3)) (dCons (dC (.int 2)) dNil))))))) (dTup (dCons (dC (.str "use")) (dCons (dC (.str "most")) (dCons (dNeg (dC (.int 1))) dNil)))))))))))))

def r_law (sp_loops_of : DSp) (sp_law_second : DSp) (sp_with_bounds : DSp) (sp_told_at : DSp) (sp_told_last : DSp) (sp_told_first : DSp) (sp_bounds_of : DSp) (sp_law_first : DSp) (sp_law_right : DSp) (sp_law_work : DSp) (sp_law_free_work : DSp) (sp_law_strays_right : DSp) (sp_law_draw : DSp) (sp_law_feed : DSp) : DTS :=
  (dSeq (dAsg (dCall sp_law_feed (dCons (dVar 0) dNil)) (gNm 1))
  (dSeq (dFor (iSq (dTup (dCons (dCall sp_law_free_work (dCons (dVar 1) (dCons (dC (.int 3)) dNil))) (dCons (dCall sp_law_work (dCons (dVar 1) (dCons (dC (.int 2)) dNil))) (dCons (dCall sp_law_second dNil) dNil))))) (gNm 2)
  (dSeq (dAsg (dCB rRepr (dCons (dVar 2) dNil)) (gNm 3))
  (dIfS (dOr (dNot (dTru (dCall sp_law_right (dCons (dVar 1) (dCons (dVar 2) dNil))))) (dOr (dNot (dTru (dCall sp_law_strays_right (dCons (dVar 2) (dCons (dCall sp_law_draw (dCons (dVar 1) (dCons (dC (.int 2)) dNil))) dNil))))) (dTst (dOp rNev (dCB rRepr (dCons (dVar 2) dNil)) (dVar 3)))))
  (dRet (dC (.bl false)))
  dNext)))
  (dSeq (dIfS (dNot (dTru (dCall sp_law_right (dCons (dVar 1) (dCons (dTup (dCons (dC (.str "row")) (dCons (dOp rMul (dTup (dCons (dTup (dCons (dC (.str "some")) (dCons (dC (.int 0)) (dCons (dC (.int 2)) (dCons (dC (.bl false)) dNil))))) (dCons (dTup (dCons (dC (.str "loop")) (dCons (dC (.int 1)) (dCons (dC (.int 1)) (dCons (dC (.bl true)) (dCons (dTup (dCons (dC (.str "some")) (dCons (dC (.int 3)) (dCons (dC (.int 4)) (dCons (dC (.bl false)) dNil))))) dNil)))))) dNil))) (dC (.int 20))) dNil))) dNil)))))
  (dRet (dC (.bl false)))
  dNext)
  (dSeq (dAsg (dCall sp_law_first dNil) (gNm 4))
  (dSeq (dAsg (dLst (dCons (dCall sp_loops_of (dCons (dVar 4) dNil)) (dCons (dCallG sp_bounds_of 0 2 [(2, 1), (2, 0)] [] dNil (dCons (dTup (dCons (dC (.int 1)) dNil)) (dCons (dVar 4) dNil))) (dCons (dOp rIx (dOp rIx (dOp rIx (dCallG sp_told_first 0 2 [(2, 1), (2, 0)] [] dNil (dCons (dTup (dCons (dC (.int 1)) dNil)) (dCons (dVar 4) dNil))) (dC (.int 1))) (dC (.int 1))) (dC (.int 3))) dNil)))) (gNm 5))
  (dSeq (dDrop (dMt mExtend (dVar 5) (dCons (dFrz (dLst (dCons (dOp rEqv (dCallG sp_told_last 0 2 [(2, 1), (2, 0)] [] dNil (dCons (dTup (dCons (dC (.int 1)) dNil)) (dCons (dVar 4) dNil))) (dVar 4)) (dCons (dOp rIx (dOp rIx (dOp rIx (dCallG sp_told_at 0 2 [(2, 1), (2, 0)] [] dNil (dCons (dTup (dCons (dTup (dCons (dC (.int 1)) dNil)) (dCons (dTup (dCons (dC (.int 1)) dNil)) dNil))) (dCons (dVar 4) dNil))) (dC (.int 1))) (dC (.int 1))) (dC (.int 3))) dNil)))) dNil)))
  (dSeq (dDrop (dMt mAppend (dVar 5) (dCons (dSl (dOp rIx (dOp rIx (dCallG sp_with_bounds 0 4 [(2, 3), (2, 2), (2, 1), (2, 0)] [] dNil (dCons (dC (.int 9)) (dCons (dC (.int 0)) (dCons (dTup (dCons (dC (.int 1)) dNil)) (dCons (dVar 4) dNil))))) (dC (.int 1))) (dC (.int 1))) dNoP (dP (dC (.int 4)))) dNil)))
  (dSeq (dIfS (dTst (dOp rNev (dVar 5) (dFrz (dLst (dCons (dTup (dCons (dTup (dCons (dC (.int 1)) dNil)) dNil)) (dCons (dTup (dCons (dC (.int 1)) (dCons (dC (.int 3)) dNil))) (dCons (dC (.bl true)) (dCons (dC (.bl true)) (dCons (dC (.bl true)) (dCons (dTup (dCons (dC (.str "loop")) (dCons (dC (.int 0)) (dCons (dC (.int 9)) (dCons (dC (.bl false)) dNil))))) dNil))))))))))
  (dRet (dC (.bl false)))
  dNext)
  (dRet (dOp rEqv (dCall sp_loops_of (dCons (dCall sp_law_second dNil) dNil)) (dTup (dCons (dTup (dCons (dC (.int 0)) (dCons (dC (.int 2)) dNil))) (dCons (dTup (dCons (dC (.int 1)) (dCons (dC (.int 0)) dNil))) (dCons (dTup (dCons (dC (.int 1)) (dCons (dC (.int 0)) (dCons (dC (.int 0)) dNil)))) (dCons (dTup (dCons (dC (.int 1)) (dCons (dC (.int 2)) (dCons (dC (.int 0)) dNil)))) (dCons (dTup (dCons (dC (.int 1)) (dCons (dC (.int 2)) (dCons (dC (.int 2)) dNil)))) dNil))))))))))))))))
end K04

namespace K03
open PySem L2 Dl
abbrev CT : CTab := [("BarError", ["BarError"], []), ("PaperError", ["PaperError", "BarError"], []), ("WorkError", ["WorkError", "BarError"], []), ("LiveError", ["LiveError", "BarError"], []), ("TextError", ["TextError", "BarError"], []), ("InvalidPaper", ["InvalidPaper", "PaperError", "BarError"], ["word", "at"]), ("NotUsable", ["NotUsable", "WorkError", "BarError"], ["word", "at"]), ("NotNext", ["NotNext", "WorkError", "BarError"], ["sign", "at"]), ("InvalidText", ["InvalidText", "TextError", "BarError"], ["line", "field"]), ("InvalidRow", ["InvalidRow", "TextError", "BarError"], ["row"])]

def r_is_integer : DTS :=
  (dRet (dAndV (dIsi "int" (dVar 0)) (dNotV (dIsi "bool" (dVar 0)))))

def r_is_number (sp_is_integer : DSp) : DTS :=
  (dRet (dAndV (dCall sp_is_integer (dCons (dVar 0) dNil)) (dOp rGe (dVar 0) (dC (.int 0)))))

def r_inner_works : DTS :=
  (dSeq (dIfS (dTst (dOp (rInn id) (dOp rIx (dVar 0) (dC (.int 0))) (dTup (dCons (dC (.str "row")) (dCons (dC (.str "either")) dNil)))))
  (dRet (dFrz (dCB rLstC (dCons (dOp rIx (dVar 0) (dC (.int 1))) dNil))))
  dNext)
  (dSeq (dIfS (dTst (dOp rEqv (dOp rIx (dVar 0) (dC (.int 0))) (dC (.str "loop"))))
  (dRet (dFrz (dLst (dCons (dOp rIx (dVar 0) (dC (.int 4))) dNil))))
  dNext)
  (dRet (dIf (dTst (dOp rEqv (dOp rIx (dVar 0) (dC (.int 0))) (dC (.str "beside")))) (dFrz (dLst (dCons (dOp rIx (dVar 0) (dC (.int 1))) (dCons (dOp rIx (dVar 0) (dC (.int 2))) dNil)))) (dFrz (dLst dNil))))))

def r_inner_pairs (sp_inner_works : DSp) : DTS :=
  (dRet (dFrz (dLc (iEnL (dCall sp_inner_works (dCons (dVar 1) dNil))) (.tup [2, 3]) dYes (dTup (dCons (dTup (dStar (dVar 0) (dCons (dVar 2) dNil))) (dCons (dVar 3) dNil))) [2, 3])))

def r_require_usable : XTS :=
  (xIfS (xPt (dNot (dTru (dVar 0))))
  (xRaise "NotUsable" ["word", "at"] (xPa (dCons (dVar 1) (dCons (dVar 2) dNil))))
  (xPs dNext))

def r_all_pairs (sp_inner_pairs : DSp) : DTS :=
  (dSeq (dAsg (dLst dNil) (gNm 1))
  (dSeq (dAsg (dLst (dCons (dTup (dCons (dTup dNil) (dCons (dVar 0) dNil))) dNil)) (gNm 2))
  (dSeq (dWhile (dTst (dOp rGt (dCB rLen (dCons (dVar 2) dNil)) (dC (.int 0))))
  (dSeq (dAsg (dMt mPop (dVar 2) dNil) (gTp 2 (gsCons (gNm 3) (gsCons (gNm 4) gsNil))))
  (dSeq (dDrop (dMt mAppend (dVar 1) (dCons (dTup (dCons (dVar 3) (dCons (dVar 4) dNil))) dNil)))
  (dDrop (dMt mExtend (dVar 2) (dCons (dFrz (dRev (dCall sp_inner_pairs (dCons (dVar 3) (dCons (dVar 4) dNil))))) dNil))))))
  (dRet (dFrz (dVar 1))))))

def r_works_along (sp_is_number : DSp) (sp_inner_works : DSp) (sx_require_usable : DSp) : XTS :=
  (xSeq (xDrop (xCall sx_require_usable (xPa (dCons (dIsi "tuple" (dVar 1)) (dCons (dC (.str "path")) (dCons (dNeg (dC (.int 1))) dNil))))))
  (xSeq (xPs (dAsg (dLst (dCons (dVar 0) dNil)) (gNm 2)))
  (xSeq (xFor (iSq (dVar 1)) (gNm 3)
  (xSeq (xPs (dAsg (dCall sp_inner_works (dCons (dOp rIx (dVar 2) (dNeg (dC (.int 1)))) dNil)) (gNm 4)))
  (xSeq (xDrop (xCall sx_require_usable (xPa (dCons (dAndV (dCall sp_is_number (dCons (dVar 3) dNil)) (dOp rLt (dVar 3) (dCB rLen (dCons (dVar 4) dNil)))) (dCons (dC (.str "path")) (dCons (dNeg (dC (.int 1))) dNil))))))
  (xPs (dDrop (dMt mAppend (dVar 2) (dCons (dOp rIx (dVar 4) (dVar 3)) dNil)))))))
  (xPs (dRet (dFrz (dVar 2)))))))

def r_put_inner : DTS :=
  (dSeq (dAsg (dOp rIx (dVar 0) (dC (.int 0))) (gNm 3))
  (dSeq (dIfS (dTst (dOp rEqv (dVar 3) (dC (.str "loop"))))
  (dRet (dTup (dStar (dSl (dVar 0) dNoP (dP (dC (.int 4)))) (dCons (dVar 2) dNil))))
  dNext)
  (dSeq (dIfS (dTst (dOp rEqv (dVar 3) (dC (.str "beside"))))
  (dRet (dIf (dTst (dOp rEqv (dVar 1) (dC (.int 0)))) (dTup (dCons (dVar 3) (dCons (dVar 2) (dCons (dOp rIx (dVar 0) (dC (.int 2))) dNil)))) (dTup (dCons (dVar 3) (dCons (dOp rIx (dVar 0) (dC (.int 1))) (dCons (dVar 2) dNil))))))
  dNext)
  (dRet (dTup (dCons (dVar 3) (dCons (dTup (dStar (dSl (dOp rIx (dVar 0) (dC (.int 1))) dNoP (dP (dVar 1))) (dCons (dVar 2) (dStar (dSl (dOp rIx (dVar 0) (dC (.int 1))) (dP (dOp rAdd (dVar 1) (dC (.int 1)))) dNoP) dNil)))) dNil)))))))

def r_put_along (sp_put_inner : DSp) : DTS :=
  (dSeq (dFor (iZpM (dCons (dFrz (dRev (dVar 0))) (dCons (dRev (dVar 1)) dNil))) (gTp 2 (gsCons (gNm 3) (gsCons (gNm 4) gsNil)))
  (dAsg (dCall sp_put_inner (dCons (dVar 3) (dCons (dVar 4) (dCons (dVar 2) dNil)))) (gNm 2)))
  (dRet (dVar 2)))

def r_law_feed : DTS :=
  (dRet (dDisp [((dC (.str "cells")), (dFrz (dCB rLstC (dCons (dFrz (dSl (dVar 0) dNoP (dP (dC (.int 63))))) dNil)))), ((dC (.str "at")), (dC (.int 0))), ((dC (.str "left")), (dC (.int 0))), ((dC (.str "count")), (dC (.int 0)))]))

def r_law_draw : DTS :=
  (dSeq (dAsg (dOp rAdd (dDGet (dVar 0) (dC (.str "count"))) (dC (.int 1))) (gSb (dVar 0) (dC (.str "count")) sDct))
  (dSeq (dIfS (dTst (dOp rGt (dDGet (dVar 0) (dC (.str "left"))) (dC (.int 0))))
  (dSeq (dAsg (dOp rMod (dCB rIntC (dCons (dDGet (dVar 0) (dC (.str "left"))) dNil)) (dVar 1)) (gNm 2))
  (dSeq (dAsg (dOp rFdiv (dDGet (dVar 0) (dC (.str "left"))) (dVar 1)) (gSb (dVar 0) (dC (.str "left")) sDct))
  (dRet (dVar 2))))
  dNext)
  (dSeq (dAsg (dDGet (dVar 0) (dC (.str "at"))) (gNm 3))
  (dSeq (dAsg (dOp rAdd (dVar 3) (dC (.int 1))) (gSb (dVar 0) (dC (.str "at")) sDct))
  (dSeq (dAsg (dIf (dTst (dOp rNev (dDGet (dVar 0) (dC (.str "cells"))) (dFrz (dLst dNil)))) (dOp rIx (dDGet (dVar 0) (dC (.str "cells"))) (dOp rMod (dCB rIntC (dCons (dVar 3) dNil)) (dCB rLen (dCons (dDGet (dVar 0) (dC (.str "cells"))) dNil)))) (dC (.int 53))) (gNm 4))
  (dSeq (dIfS (dAnd (dTst (dOp rGe (dVar 4) (dOp rPow (dC (.int 10)) (dC (.int 18))))) (dTst (dOp rLt (dVar 3) (dCB rLen (dCons (dDGet (dVar 0) (dC (.str "cells"))) dNil)))))
  (dSeq (dAsg (dOp rFdiv (dVar 4) (dVar 1)) (gSb (dVar 0) (dC (.str "left")) sDct))
  (dRet (dOp rMod (dCB rIntC (dCons (dVar 4) dNil)) (dVar 1))))
  dNext)
  (dSeq (dAsg (dOp rMod (dCB rIntC (dCons (dOp rAdd (dOp rAdd (dOp rMod (dCB rIntC (dCons (dVar 4) dNil)) (dC (.int 1000000487))) (dOp rMul (dC (.int 240007)) (dDGet (dVar 0) (dC (.str "count"))))) (dC (.int 103))) dNil)) (dC (.int 2147482937))) (gNm 5))
  (dSeq (dAsg (dOp rMod (dCB rIntC (dCons (dOp rAdd (dOp rAdd (dOp rMul (dVar 5) (dVar 5)) (dOp rMul (dC (.int 5300003)) (dDGet (dVar 0) (dC (.str "count"))))) (dC (.int 61))) dNil)) (dC (.int 2147482921))) (gNm 5))
  (dRet (dOp rMod (dCB rIntC (dCons (dOp rFdiv (dOp rMod (dCB rIntC (dCons (dOp rAdd (dOp rMul (dVar 5) (dVar 5)) (dOp rMul (dC (.int 107)) (dVar 5))) dNil)) (dC (.int 2147482859))) (dC (.int 16))) dNil)) (dVar 1)))))))))))

def r_law_subs : DTS :=
  (dSeq (dIfS (dTst (dOp (rInn id) (dOp rIx (dVar 0) (dC (.int 0))) (dTup (dCons (dC (.str "row")) (dCons (dC (.str "either")) dNil)))))
  (dRet (dCB rLstC (dCons (dOp rIx (dVar 0) (dC (.int 1))) dNil)))
  dNext)
  (dSeq (dIfS (dTst (dOp rEqv (dOp rIx (dVar 0) (dC (.int 0))) (dC (.str "beside"))))
  (dRet (dLst (dCons (dOp rIx (dVar 0) (dC (.int 1))) (dCons (dOp rIx (dVar 0) (dC (.int 2))) dNil))))
  dNext)
  (dRet (dIf (dTst (dOp rEqv (dOp rIx (dVar 0) (dC (.int 0))) (dC (.str "loop")))) (dLst (dCons (dOp rIx (dVar 0) (dC (.int 4))) dNil)) (dLst dNil)))))

def r_law_all (sp_law_all : DSp) (sp_law_subs : DSp) : DTS :=
  (dSeq (dPar 2 3 (dCons (dLst (dCons (dTup (dCons (dVar 1) (dCons (dVar 0) dNil))) dNil)) (dCons (dFrz (dCall sp_law_subs (dCons (dVar 0) dNil))) dNil)))
  (dSeq (dFor (iRg1 (dCons (dCB rLen (dCons (dVar 3) dNil)) dNil)) (gNm 4)
  (dDrop (dMt mExtend (dVar 2) (dCons (dCall sp_law_all (dCons (dOp rIx (dVar 3) (dVar 4)) (dCons (dOp rAdd (dVar 1) (dTup (dCons (dVar 4) dNil))) dNil))) dNil))))
  (dRet (dFrz (dVar 2)))))

def r_law_put (sp_law_put : DSp) (sp_law_subs : DSp) : DTS :=
  (dSeq (dIfS (dTst (dOp rEqv (dVar 1) (dTup dNil)))
  (dRet (dVar 2))
  dNext)
  (dSeq (dPar 3 4 (dCons (dOp rIx (dVar 1) (dC (.int 0))) (dCons (dCall sp_law_subs (dCons (dVar 0) dNil)) dNil)))
  (dSeq (dAsg (dCall sp_law_put (dCons (dOp rIx (dVar 4) (dVar 3)) (dCons (dSl (dVar 1) (dP (dC (.int 1))) dNoP) (dCons (dVar 2) dNil)))) (gSb (dVar 4) (dVar 3) sLst))
  (dSeq (dIfS (dTst (dOp (rInn id) (dOp rIx (dVar 0) (dC (.int 0))) (dTup (dCons (dC (.str "row")) (dCons (dC (.str "either")) dNil)))))
  (dRet (dTup (dCons (dOp rIx (dVar 0) (dC (.int 0))) (dCons (dCB rTupC (dCons (dVar 4) dNil)) dNil))))
  dNext)
  (dRet (dIf (dTst (dOp rEqv (dOp rIx (dVar 0) (dC (.int 0))) (dC (.str "loop")))) (dOp rAdd (dSl (dVar 0) dNoP (dP (dC (.int 4)))) (dTup (dCons (dOp rIx (dVar 4) (dC (.int 0))) dNil))) (dTup (dCons (dOp rIx (dVar 0) (dC (.int 0))) (dCons (dOp rIx (dVar 4) (dC (.int 0))) (dCons (dOp rIx (dVar 4) (dC (.int 1))) dNil))))))))))

def r_law_fewest (sp_law_subs : DSp) (sp_law_fewest : DSp) : DTS :=
  (dSeq (dIfS (dTst (dOp (rInn id) (dOp rIx (dVar 0) (dC (.int 0))) (dTup (dCons (dC (.str "tick")) (dCons (dC (.str "some")) dNil)))))
  (dRet (dOp rIx (dVar 0) (dC (.int 1))))
  dNext)
  (dSeq (dAsg (dFrz (dLc (iSq (dFrz (dCall sp_law_subs (dCons (dVar 0) dNil)))) (.one 2) dYes (dCall sp_law_fewest (dCons (dVar 2) dNil)) [2])) (gNm 1))
  (dSeq (dIfS (dTst (dOp rEqv (dOp rIx (dVar 0) (dC (.int 0))) (dC (.str "either"))))
  (dRet (dCB rMinC (dCons (dVar 1) dNil)))
  dNext)
  (dRet (dIf (dTst (dOp rEqv (dOp rIx (dVar 0) (dC (.int 0))) (dC (.str "loop")))) (dOp rMul (dOp rIx (dVar 0) (dC (.int 1))) (dOp rIx (dVar 1) (dC (.int 0)))) (dCB rSumC (dCons (dVar 1) dNil)))))))

def r_law_bounds (sp_law_draw : DSp) : DTS :=
  (dSeq (dAsg (dOp rIx (dFrz (dLst (dCons (dC (.int 0)) (dCons (dC (.int 1)) (dCons (dC (.int 1)) (dCons (dC (.int 2)) (dCons (dC (.int 5)) dNil))))))) (dCall sp_law_draw (dCons (dVar 0) (dCons (dC (.int 5)) dNil)))) (gNm 1))
  (dRet (dTup (dCons (dVar 1) (dCons (dOp rAdd (dVar 1) (dOp rIx (dFrz (dLst (dCons (dC (.int 0)) (dCons (dC (.int 1)) (dCons (dC (.int 2)) (dCons (dC (.int 7)) dNil)))))) (dCall sp_law_draw (dCons (dVar 0) (dCons (dC (.int 4)) dNil))))) (dCons (dOp rEqv (dCall sp_law_draw (dCons (dVar 0) (dCons (dC (.int 2)) dNil))) (dC (.int 0))) dNil))))))

def r_law_free_work (sp_law_free_work : DSp) (sp_law_draw : DSp) (sp_law_bounds : DSp) : DTS :=
  (dSeq (dAsg (dIf (dTst (dOp rGt (dVar 1) (dC (.int 0)))) (dCall sp_law_draw (dCons (dVar 0) (dCons (dC (.int 9)) dNil))) (dCall sp_law_draw (dCons (dVar 0) (dCons (dC (.int 4)) dNil)))) (gNm 2))
  (dSeq (dIfS (dTst (dOp rLt (dVar 2) (dC (.int 2))))
  (dRet (dTup (dCons (dC (.str "tick")) (dCons (dOp rAdd (dC (.int 1)) (dOp rIx (dFrz (dLst (dCons (dC (.int 0)) (dCons (dC (.int 1)) (dCons (dC (.int 2)) (dCons (dC (.int 11)) dNil)))))) (dCall sp_law_draw (dCons (dVar 0) (dCons (dC (.int 4)) dNil))))) dNil))))
  dNext)
  (dSeq (dIfS (dTst (dOp rLt (dVar 2) (dC (.int 4))))
  (dRet (dOp rAdd (dTup (dCons (dC (.str "some")) dNil)) (dCall sp_law_bounds (dCons (dVar 0) dNil))))
  dNext)
  (dSeq (dIfS (dTst (dOp rLt (dVar 2) (dC (.int 6))))
  (dRet (dOp rAdd (dOp rAdd (dTup (dCons (dC (.str "loop")) dNil)) (dCall sp_law_bounds (dCons (dVar 0) dNil))) (dTup (dCons (dCall sp_law_free_work (dCons (dVar 0) (dCons (dOp rSub (dVar 1) (dC (.int 1))) dNil))) dNil))))
  dNext)
  (dSeq (dIfS (dTst (dOp rEqv (dVar 2) (dC (.int 8))))
  (dRet (dTup (dCons (dC (.str "beside")) (dCons (dCall sp_law_free_work (dCons (dVar 0) (dCons (dOp rSub (dVar 1) (dC (.int 1))) dNil))) (dCons (dCall sp_law_free_work (dCons (dVar 0) (dCons (dOp rSub (dVar 1) (dC (.int 1))) dNil))) dNil)))))
  dNext)
  (dSeq (dAsg (dIf (dTst (dOp rEqv (dVar 2) (dC (.int 6)))) (dCall sp_law_draw (dCons (dVar 0) (dCons (dC (.int 4)) dNil))) (dOp rAdd (dC (.int 1)) (dCall sp_law_draw (dCons (dVar 0) (dCons (dC (.int 3)) dNil))))) (gNm 3))
  (dSeq (dAsg (dCB rTupC (dCons (dFrz (dLc (iRg1 (dCons (dVar 3) dNil)) (.one 5) dYes (dCall sp_law_free_work (dCons (dVar 0) (dCons (dOp rSub (dVar 1) (dC (.int 1))) dNil))) [5])) dNil)) (gNm 4))
  (dRet (dTup (dCons (dOp rIx (dFrz (dLst (dCons (dC (.str "row")) (dCons (dC (.str "either")) dNil)))) (dOp rSub (dVar 2) (dC (.int 6)))) (dCons (dVar 4) dNil)))))))))))

def r_law_work (sp_law_fewest : DSp) (sp_law_free_work : DSp) : DTS :=
  (dSeq (dAsg (dCall sp_law_free_work (dCons (dVar 0) (dCons (dVar 1) dNil))) (gNm 2))
  (dRet (dIf (dTst (dOp rGt (dCall sp_law_fewest (dCons (dVar 2) dNil)) (dC (.int 0)))) (dVar 2) (dTup (dCons (dC (.str "row")) (dCons (dTup (dCons (dTup (dCons (dC (.str "tick")) (dCons (dC (.int 1)) dNil))) (dCons (dVar 2) dNil))) dNil))))))

def r_law_first : DTS :=
  (dRet (dTup (dCons (dC (.str "row")) (dCons (dTup (dCons (dTup (dCons (dC (.str "tick")) (dCons (dC (.int 2)) dNil))) (dCons (dTup (dCons (dC (.str "loop")) (dCons (dC (.int 1)) (dCons (dC (.int 3)) (dCons (dC (.bl false)) (dCons (dTup (dCons (dC (.str "tick")) (dCons (dC (.int 2)) dNil))) dNil)))))) dNil))) dNil))))

def r_law_second : DTS :=
  (dSeq (dAsg (dTup (dCons (dC (.str "some")) (dCons (dC (.int 0)) (dCons (dC (.int 4)) (dCons (dC (.bl true)) dNil))))) (gNm 0))
  (dSeq (dAsg (dTup (dCons (dC (.str "loop")) (dCons (dC (.int 2)) (dCons (dC (.int 2)) (dCons (dC (.bl false)) (dCons (dTup (dCons (dC (.str "some")) (dCons (dC (.int 1)) (dCons (dC (.int 1)) (dCons (dC (.bl false)) dNil))))) dNil)))))) (gNm 1))
  (dSeq (dAsg (dTup (dCons (dC (.str "either")) (dCons (dTup (dCons (dTup (dCons (dC (.str "loop")) (dCons (dC (.int 0)) (dCons (dC (.int 3)) (dCons (dC (.bl true)) (dCons (dTup (dCons (dC (.str "beside")) (dCons (dTup (dCons (dC (.str "tick")) (dCons (dC (.int 1)) dNil))) (dCons (dTup (dCons (dC (.str "row")) (dCons (dTup dNil) dNil))) dNil)))) dNil)))))) (dCons (dTup (dCons (dC (.str "tick")) (dCons (dC (.int 7)) dNil))) (dCons (dVar 0) dNil)))) dNil))) (gNm 2))
  (dRet (dTup (dCons (dC (.str "beside")) (dCons (dTup (dCons (dC (.str "row")) (dCons (dTup (dCons (dTup (dCons (dC (.str "tick")) (dCons (dC (.int 1)) dNil))) (dCons (dTup (dCons (dC (.str "row")) (dCons (dTup dNil) dNil))) (dCons (dVar 0) dNil)))) dNil))) (dCons (dTup (dCons (dC (.str "either")) (dCons (dTup (dCons (dVar 1) (dCons (dTup (dCons (dC (.str "tick")) (dCons (dC (.int 12)) dNil))) (dCons (dVar 2) dNil)))) dNil))) dNil))))))))

def r_law_heard (α : Dl.Act) : DTS :=
  (dTry CT "BarError" 1 (xRet (xTup (xCons (xPe (dC (.str "told"))) (xCons (xAct 0 α) (xPa dNil))))) (fun a c d =>
  (dSeq (dAsg (dLst (dCons (dIsX CT a c d (dVar 1) "PaperError") (dCons (dIsX CT a c d (dVar 1) "WorkError") dNil))) (gNm 2))
  (dSeq (dDrop (dMt mExtend (dVar 2) (dCons (dFrz (dLst (dCons (dIsX CT a c d (dVar 1) "LiveError") (dCons (dIsX CT a c d (dVar 1) "TextError") dNil)))) dNil)))
  (dSeq (dIfS (dAnd (dTst (dOp rEqv (dVar 2) (dFrz (dLst (dCons (dC (.bl true)) (dCons (dC (.bl false)) (dCons (dC (.bl false)) (dCons (dC (.bl false)) dNil)))))))) (dTru (dIsX CT a c d (dVar 1) "InvalidPaper")))
  (dRet (dTup (dCons (dC (.str "paper")) (dCons (dExf CT a c d (dVar 1) "word") (dCons (dExf CT a c d (dVar 1) "at") dNil)))))
  dNext)
  (dSeq (dIfS (dTst (dOp rEqv (dVar 2) (dFrz (dLst (dCons (dC (.bl false)) (dCons (dC (.bl false)) (dCons (dC (.bl false)) (dCons (dC (.bl true)) dNil))))))))
  (dSeq (dAsg (dAndV (dIsX CT a c d (dVar 1) "InvalidText") (dNotV (dIsX CT a c d (dVar 1) "InvalidRow"))) (gNm 3))
  (dRet (dIf (dTru (dVar 3)) (dTup (dCons (dC (.str "text")) (dCons (dExf CT a c d (dVar 1) "line") (dCons (dExf CT a c d (dVar 1) "field") dNil)))) (dTup (dCons (dC (.str "odd")) dNil)))))
  dNext)
  (dSeq (dIfS (dOr (dTst (dOp rNev (dVar 2) (dFrz (dLst (dCons (dC (.bl false)) (dCons (dC (.bl true)) (dCons (dC (.bl false)) (dCons (dC (.bl false)) dNil)))))))) (dTru (dIsX CT a c d (dVar 1) "NotNext")))
  (dRet (dTup (dCons (dC (.str "odd")) dNil)))
  dNext)
  (dRet (dIf (dTru (dIsX CT a c d (dVar 1) "NotUsable")) (dTup (dCons (dC (.str "use")) (dCons (dExf CT a c d (dVar 1) "word") (dCons (dExf CT a c d (dVar 1) "at") dNil)))) (dTup (dCons (dC (.str "odd")) dNil)))))))))))

def r_law_strays_in : DTS :=
  (dSeq (dAsg (dLst (dCons (dC .non) (dCons (dC (.int 0)) (dCons (dC (.bl true)) (dCons (dC (.str "")) (dCons (dFrz (dLst dNil)) (dCons (dC (.str "0")) (dCons (dTup (dCons (dNeg (dC (.int 1))) dNil)) (dCons (dTup (dCons (dC .non) dNil)) (dCons (dTup (dCons (dC (.bl true)) dNil)) (dCons (dTup (dCons (dC (.str "0")) dNil)) (dCons (dTup (dCons (dC (.int 60)) dNil)) (dCons (dTup (dCons (dTup (dCons (dC (.int 0)) dNil)) dNil)) (dCons (dTup (dCons (dOp rPow (dC (.int 10)) (dC (.int 59))) dNil)) (dCons (dFrz (dLst (dCons (dC (.int 0)) dNil))) dNil))))))))))))))) (gNm 1))
  (dSeq (dFor (iSq (dVar 0)) (gNm 2)
  (dDrop (dMt mExtend (dVar 1) (dCons (dFrz (dLst (dCons (dOp rAdd (dVar 2) (dTup (dCons (dC (.int 0)) dNil))) (dCons (dOp rAdd (dVar 2) (dTup (dCons (dC (.bl false)) dNil))) (dCons (dOp rAdd (dVar 2) (dTup (dCons (dC (.int 3)) dNil))) (dCons (dFrz (dCB rLstC (dCons (dVar 2) dNil))) dNil)))))) dNil))))
  (dSeq (dAsg (dFrz (dLc (iSq (dVar 0)) (.one 2) dYes (dCB rReprA (dCons (dVar 2) dNil)) [2])) (gNm 3))
  (dRet (dFrz (dLc (iSq (dVar 1)) (.one 4) (dTst (dOp (rInn not) (dCB rReprA (dCons (dVar 4) dNil)) (dVar 3))) (dVar 4) [4]))))))

end K03

namespace K03
open PySem L2 Dl 
local macro_rules | `(tactic| walk_at "ds") => `(tactic| repeat' with_reducible first
  | fail "stuck")
def innW : Wk → List Wk
  | .lop _ _ _ w => [w]
  | .eit ws => ws
  | .row ws => ws
  | .bes a b => [a, b]
  | _ => []
abbrev Pth := List Nat
mutual
/-- the parts in order, a work ahead of its own -/
def preW (p : Pth) : Wk → List (Pth × Wk)
  | .tick n => [(p, .tick n)]
  | .sme a b t => [(p, .sme a b t)]
  | .lop a b t w => (p, .lop a b t w) :: preW (p ++ [0]) w
  | .eit ws => (p, .eit ws) :: preWs p 0 ws
  | .row ws => (p, .row ws) :: preWs p 0 ws
  | .bes a b => (p, .bes a b) :: (preW (p ++ [0]) a ++ preW (p ++ [1]) b)
def preWs (p : Pth) (k : Nat) : List Wk → List (Pth × Wk)
  | [] => []
  | w :: ws => preW (p ++ [k]) w ++ preWs p (k + 1) ws
end
theorem preW_eq (p : Pth) (w : Wk) : preW p w = (p, w) :: preWs p 0 (innW w) := by
  cases w <;> simp [preW, innW, preWs]
def prsW (p : Pth) (w : Wk) : List (Pth × Wk) := (innW w).zipIdx.map fun q => (p ++ [q.2], q.1)
theorem preWs_flat (p : Pth) : ∀ (ws : List Wk) (k : Nat), preWs p k ws = ((ws.zipIdx k).map fun q => (p ++ [q.2], q.1)).flatMap fun q => preW q.1 q.2
  | [], k => by simp [preWs]
  | w :: ws, k => by
    rw [preWs, preWs_flat p ws (k + 1), List.zipIdx_cons, List.map_cons, List.flatMap_cons]
def lotW (W : List (Pth × Wk)) : List (Pth × Wk) := W.reverse.flatMap fun q => preW q.1 q.2
theorem lotW_pop (V : List (Pth × Wk)) (p : Pth) (u : Wk) : lotW (V ++ [(p, u)]) = (p, u) :: lotW (V ++ (prsW p u).reverse) := by
  unfold lotW
  rw [List.reverse_append, List.reverse_append, List.reverse_reverse, List.reverse_singleton, List.flatMap_append, List.flatMap_append, List.flatMap_singleton, preW_eq, List.cons_append, preWs_flat]
  rfl
theorem lotW_one (w : Wk) : lotW [([], w)] = preW [] w := by simp [lotW]
def alongW : Wk → Pth → Option (List Wk)
  | w, [] => some [w]
  | w, k :: p => match (innW w)[k]? with
    | some u => (alongW u p).map (w :: ·)
    | none => none
def setW : Wk → Nat → Wk → Wk
  | .lop a b t _, _, x => .lop a b t x
  | .bes a b, 0, x => .bes x b
  | .bes a b, _, x => .bes a x
  | .row ws, k, x => .row (ws.set k x)
  | .eit ws, k, x => .eit (ws.set k x)
  | w, _, _ => w
def putW (late : Wk) : Wk → Pth → Wk
  | _, [] => late
  | w, k :: p => match (innW w)[k]? with
    | some u => setW w k (putW late u p)
    | none => w
mutual
theorem pre_along : ∀ (w : Wk) (p : Pth) (q : Pth × Wk), q ∈ preW p w → ∃ r l, q.1 = p ++ r ∧ alongW w r = some l ∧ l.getLast? = some q.2 ∧ l.length = r.length + 1
  | .tick n, p, q, h => by
    rw [preW, List.mem_singleton] at h; subst h
    exact ⟨[], [.tick n], by simp, by simp [alongW], by simp, rfl⟩
  | .sme a b t, p, q, h => by
    rw [preW, List.mem_singleton] at h; subst h
    exact ⟨[], [.sme a b t], by simp, by simp [alongW], by simp, rfl⟩
  | .lop a b t w, p, q, h => by
    rw [preW, List.mem_cons] at h
    rcases h with rfl | h
    · exact ⟨[], [.lop a b t w], by simp, by simp [alongW], by simp, rfl⟩
    · obtain ⟨r, l, e1, e2, e3, e4⟩ := pre_along w (p ++ [0]) q h
      refine ⟨0 :: r, .lop a b t w :: l, by rw [e1]; simp, by simp [alongW, innW, e2], ?_, by simp [e4]⟩
      rw [List.getLast?_cons, e3]; rfl
  | .eit ws, p, q, h => by
    rw [preW, List.mem_cons] at h
    rcases h with rfl | h
    · exact ⟨[], [.eit ws], by simp, by simp [alongW], by simp, rfl⟩
    · obtain ⟨j, u, r, l, hj, e1, e2, e3, e4⟩ := pres_along ws p 0 q h
      refine ⟨j :: r, .eit ws :: l, by rw [e1]; simp, ?_, ?_, by simp [e4]⟩
      · simp [alongW, innW, hj, e2]
      · rw [List.getLast?_cons, e3]; rfl
  | .row ws, p, q, h => by
    rw [preW, List.mem_cons] at h
    rcases h with rfl | h
    · exact ⟨[], [.row ws], by simp, by simp [alongW], by simp, rfl⟩
    · obtain ⟨j, u, r, l, hj, e1, e2, e3, e4⟩ := pres_along ws p 0 q h
      refine ⟨j :: r, .row ws :: l, by rw [e1]; simp, ?_, ?_, by simp [e4]⟩
      · simp [alongW, innW, hj, e2]
      · rw [List.getLast?_cons, e3]; rfl
  | .bes a b, p, q, h => by
    rw [preW, List.mem_cons, List.mem_append] at h
    rcases h with rfl | h | h
    · exact ⟨[], [.bes a b], by simp, by simp [alongW], by simp, rfl⟩
    · obtain ⟨r, l, e1, e2, e3, e4⟩ := pre_along a (p ++ [0]) q h
      refine ⟨0 :: r, .bes a b :: l, by rw [e1]; simp, by simp [alongW, innW, e2], ?_, by simp [e4]⟩
      rw [List.getLast?_cons, e3]; rfl
    · obtain ⟨r, l, e1, e2, e3, e4⟩ := pre_along b (p ++ [1]) q h
      refine ⟨1 :: r, .bes a b :: l, by rw [e1]; simp, by simp [alongW, innW, e2], ?_, by simp [e4]⟩
      rw [List.getLast?_cons, e3]; rfl
theorem pres_along : ∀ (ws : List Wk) (p : Pth) (k : Nat) (q : Pth × Wk), q ∈ preWs p k ws → ∃ j u r l, ws[j]? = some u ∧ q.1 = p ++ (k + j) :: r ∧ alongW u r = some l ∧ l.getLast? = some q.2 ∧ l.length = r.length + 1
  | [], p, k, q, h => by rw [preWs] at h; cases h
  | w :: ws, p, k, q, h => by
    rw [preWs, List.mem_append] at h
    rcases h with h | h
    · obtain ⟨r, l, e1, e2, e3, e4⟩ := pre_along w (p ++ [k]) q h
      exact ⟨0, w, r, l, rfl, by rw [e1]; simp, e2, e3, e4⟩
    · obtain ⟨j, u, r, l, hj, e1, e2, e3, e4⟩ := pres_along ws p (k + 1) q h
      exact ⟨j + 1, u, r, l, by simpa using hj, by rw [e1]; congr 2; omega, e2, e3, e4⟩
end
end K03

namespace K03
open PySem L2 Dl 
local macro_rules | `(tactic| walk_at "ds") => `(tactic| repeat' with_reducible first
  | refine iVar (by with_unfolding_all rfl) ?_
  | refine iCons ?_
  | refine iNil ?_
  | refine iC ?_
  | refine iOp ?_
  | refine iSeq ?_
  | refine iAsg ?_
  | refine iGNm ?_
  | refine iFrz ?_
  | refine iTst ?_
  | refine iIfS ?_
  | refine iRet ?_
  | refine iLst ?_
  | refine iNext ?_
  | refine iDGet ?_
  | refine dctP_i (by assumption) ?_
  | refine dctP_i updG_same ?_
  | refine iGSb ?_
  | refine lenOk (by with_unfolding_all rfl) ?_
  | refine frzEnd ?_
  | refine lstC_l ?_
  | refine iAnd ?_
  | refine iIf ?_
  | refine ifT ?_
  | refine ifF ?_
  | refine iCB ?_
  | refine iSl ?_
  | refine iP ?_
  | refine iNoP ?_
  | refine rIx_i (by with_unfolding_all rfl) (by with_unfolding_all rfl) ?_
  | refine rIx_i (by with_unfolding_all rfl) atI_0 ?_
  | refine add_ii ?_
  | refine int0 ?_
  | refine len_l ?_
  | refine intC_i ?_
  | refine keyP_s ?_
  | refine iPsC ?_
  | refine iPsN ?_
  | fail "stuck")
def feedKv (cs : List Int) (at_ lf cn : Int) : List (Key × D) := [(.inr "cells", .lst (cs.map D.int)), (.inr "at", .int at_), (.inr "left", .int lf), (.inr "count", .int cn)]
def FeedOk (G : GH) (a : Addr) : Prop := ∃ cs at_ lf cn, G a = some (.dct (feedKv cs at_ lf cn))
def KeepX (a : Addr) (G G' : GH) : Prop := ∀ b o, b ≠ a → G b = some o → G' b = some o
theorem KeepX.refl (a : Addr) (G : GH) : KeepX a G G := fun _ _ _ h => h
theorem KeepX.trans {a : Addr} {G G1 G2 : GH} (h : KeepX a G G1) (k : KeepX a G1 G2) : KeepX a G G2 := fun b o n e => k b o n (h b o n e)
theorem KeepX.upd {a : Addr} {G : GH} {o : DO} : KeepX a G (updG G a o) := fun b u n e => by rw [updG_ne n]; exact e
theorem KeepX.of {a : Addr} {G G' : GH} (h : Grow G G') : KeepX a G G' := fun b o _ e => h b o e
theorem FeedOk.grow {a : Addr} {G G' : GH} (h : FeedOk G a) (k : Grow G G') : FeedOk G' a := by
  obtain ⟨c, x, y, z, e⟩ := h
  exact ⟨c, x, y, z, k _ _ e⟩
theorem FeedOk.ne {a p : Addr} {G : GH} (h : FeedOk G a) (hp : G p = none) : a ≠ p := by
  rintro rfl
  obtain ⟨_, _, _, _, e⟩ := h
  rw [hp] at e; cases e
theorem FeedOk.keep {a b : Addr} {G G' : GH} (h : FeedOk G a) (hn : a ≠ b) (k : KeepX b G G') : FeedOk G' a := by
  obtain ⟨c, x, y, z, e⟩ := h
  exact ⟨c, x, y, z, k _ _ hn e⟩
theorem g_cells {cs : List Int} {x y z : Int} : getK (feedKv cs x y z) (.inr "cells") = some (.lst (cs.map D.int)) := by simp [getK, feedKv]
theorem g_at {cs : List Int} {x y z : Int} : getK (feedKv cs x y z) (.inr "at") = some (.int x) := by simp [getK, feedKv]
theorem g_left {cs : List Int} {x y z : Int} : getK (feedKv cs x y z) (.inr "left") = some (.int y) := by simp [getK, feedKv]
theorem g_count {cs : List Int} {x y z : Int} : getK (feedKv cs x y z) (.inr "count") = some (.int z) := by simp [getK, feedKv]
theorem p_at {cs : List Int} {x y z v : Int} : putD (feedKv cs x y z) (.inr "at") (.int v) = feedKv cs v y z := by simp [putD, feedKv]
theorem p_left {cs : List Int} {x y z v : Int} : putD (feedKv cs x y z) (.inr "left") (.int v) = feedKv cs x v z := by simp [putD, feedKv]
theorem p_count {cs : List Int} {x y z v : Int} : putD (feedKv cs x y z) (.inr "count") (.int v) = feedKv cs x y v := by simp [putD, feedKv]
theorem sDct_i {a : Addr} {kvs : List (Key × D)} {x : Str} {d : D} {G : GH} {Q : GH → Prop} (e : G a = some (.dct kvs)) (z : kvs.length < sizeLine) (h : Q (updG G a (.dct (putD kvs (.inr x) d)))) : sDct (.ref a) (.str x) d G Q := dctP_i e ⟨z, h⟩
theorem cell_at {cs : List Int} (h : cs ≠ []) (k : Int) : ∃ c : Int, atI (cs.map D.int) (k % (cs.length : Int)) = some (.int c) := by
  have hl : 0 < cs.length := List.length_pos_iff.mpr h
  have h1 := Int.emod_nonneg k (show (cs.length : Int) ≠ 0 by omega)
  have h2 := Int.emod_lt_of_pos k (show (0 : Int) < cs.length by omega)
  obtain ⟨j, hj⟩ : ∃ j : Nat, k % (cs.length : Int) = j := ⟨(k % (cs.length : Int)).toNat, by omega⟩
  rw [hj]
  have hj2 : j < cs.length := by omega
  exact ⟨cs[j], Dl.atI_nat (by simp [hj2])⟩
theorem okCells (cs : List Int) : okD (.lst (cs.map D.int)) := by
  constructor
  · rw [pureD]
    induction cs with
    | nil => simp [pureDs]
    | cons x xs ih => simp [pureDs, pureD, ih]
  · rw [depD]
    have : depDs (cs.map D.int) ≤ 0 := depDs_le (by intro d hd; obtain ⟨i, -, rfl⟩ := List.mem_map.mp hd; simp [depD])
    omega
def spDraw : DSp := fun ds G Q _ => ∃ a m, ds = [.ref a, .int m] ∧ 0 < m ∧ m < 1073741824 ∧ FeedOk G a ∧ ∀ (r : Int) G', 0 ≤ r → r < m → FeedOk G' a → KeepX a G G' → Q (.int r) G'
theorem mod64 (u : Int) {k : Int} (h1 : 0 < k) (h2 : k < 4294967296) (j : Int) : CMul (u % k) j := by
  have h3 := Int.emod_nonneg u (show k ≠ 0 by omega)
  have h4 := Int.emod_lt_of_pos u h1
  refine .inl ⟨?_, ?_⟩
  · have : (-2 ^ 64 : Int) < 0 := by decide
    omega
  · have : (2 : Int) ^ 64 = 18446744073709551616 := by decide
    omega
theorem law_draw_rd : ∀ ds G Q E, spDraw ds G Q E → r_law_draw { nx := fun _ G' => Q .non G', rt := Q } (startD 6 ds) G := by
  rintro ds G Q E ⟨a, m, rfl, hm, hm2, ⟨cs, x, y, z, e⟩, hq⟩
  unfold r_law_draw
  have go : ∀ (v : Int) (c : List Int) (x y z : Int), Q (.int (v % m)) (updG G a (.dct (feedKv c x y z))) := fun v c x y z =>
    hq _ _ (Int.emod_nonneg _ (by omega)) (Int.emod_lt_of_pos _ hm) ⟨c, x, y, z, updG_same⟩ KeepX.upd
  walk_at "ds"
  refine getK_i g_count ?_
  walk_at "ds"
  refine sDct_i e (by show 4 < sizeLine; decide) ?_
  rw [p_count]
  walk_at "ds"
  refine getK_i g_left ?_
  walk_at "ds"
  refine ifD (fun h => ?_) (fun h => ?_)
  · walk_at "ds"
    refine getK_i g_left ?_
    walk_at "ds"
    refine int2 hm ?_
    walk_at "ds"
    refine getK_i g_left ?_
    walk_at "ds"
    refine int2 ⟨hm, hm2⟩ ?_
    walk_at "ds"
    refine sDct_i updG_same (by show 4 < sizeLine; decide) ?_
    rw [p_left, updG_updG]
    walk_at "ds"
    exact go _ _ _ _ _
  · walk_at "ds"
    refine getK_i g_at ?_
    walk_at "ds"
    refine sDct_i updG_same (by show 4 < sizeLine; decide) ?_
    rw [p_at, updG_updG]
    dsimp only
    refine seqC (fun ρ G2 => ∃ c : Int, ρ = [some (.ref a), some (.int m), none, some (.int x), some (.int c), none] ∧ G2 = updG G a (.dct (feedKv cs (x + 1) y (z + 1)))) ?_ ?_
    · intro K hK
      walk_at "ds"
      refine getK_i g_cells ?_
      walk_at "ds"
      refine ne_ll (okCells cs) (okCells []) ?_
      by_cases hne : cs = []
      · rw [hne, show eqvD (.lst (([] : List Int).map D.int)) (.lst []) = true from by decide +kernel]
        refine ifF ?_
        walk_at "ds"
        exact hK _ _ ⟨53, rfl, by rw [hne]⟩
      · rw [show eqvD (.lst (cs.map D.int)) (.lst []) = false from by cases cs with
          | nil => exact absurd rfl hne
          | cons => simp [eqvD, eqvDs]]
        refine ifT ?_
        walk_at "ds"
        refine getK_i g_cells ?_
        walk_at "ds"
        refine getK_i g_cells ?_
        walk_at "ds"
        have hl : 0 < cs.length := List.length_pos_iff.mpr hne
        refine int2 (by rw [List.length_map]; omega) ?_
        rw [List.length_map]
        obtain ⟨c, hc⟩ := cell_at hne x
        refine rIx_i rfl hc ?_
        walk_at "ds"
        exact hK _ _ ⟨c, rfl, rfl⟩
    rintro ρ G2 ⟨c, rfl, rfl⟩
    have tail : (dSeq (dAsg (dOp rMod (dCB rIntC (dCons (dOp rAdd (dOp rAdd (dOp rMod (dCB rIntC (dCons (dVar 4) dNil)) (dC (.int 1000000487))) (dOp rMul (dC (.int 240007)) (dDGet (dVar 0) (dC (.str "count"))))) (dC (.int 103))) dNil)) (dC (.int 2147482937))) (gNm 5))
        (dSeq (dAsg (dOp rMod (dCB rIntC (dCons (dOp rAdd (dOp rAdd (dOp rMul (dVar 5) (dVar 5)) (dOp rMul (dC (.int 5300003)) (dDGet (dVar 0) (dC (.str "count"))))) (dC (.int 61))) dNil)) (dC (.int 2147482921))) (gNm 5))
        (dRet (dOp rMod (dCB rIntC (dCons (dOp rFdiv (dOp rMod (dCB rIntC (dCons (dOp rAdd (dOp rMul (dVar 5) (dVar 5)) (dOp rMul (dC (.int 107)) (dVar 5))) dNil)) (dC (.int 2147482859))) (dC (.int 16))) dNil)) (dVar 1))))) { nx := fun _ G' => Q .non G', rt := Q } [some (.ref a), some (.int m), none, some (.int x), some (.int c), none] (updG G a (.dct (feedKv cs (x + 1) y (z + 1)))) := by
      walk_at "ds"
      refine int2 (by decide) ?_
      walk_at "ds"
      refine getK_i g_count ?_
      walk_at "ds"
      refine mul_ii (.inl ⟨by decide, by decide⟩) ?_
      walk_at "ds"
      refine int2 (by decide) ?_
      walk_at "ds"
      refine mul_ii (mod64 _ (by decide) (by decide) _) ?_
      walk_at "ds"
      refine getK_i g_count ?_
      walk_at "ds"
      refine mul_ii (.inl ⟨by decide, by decide⟩) ?_
      walk_at "ds"
      refine int2 (by decide) ?_
      walk_at "ds"
      refine mul_ii (mod64 _ (by decide) (by decide) _) ?_
      walk_at "ds"
      refine mul_ii (.inl ⟨by decide, by decide⟩) ?_
      walk_at "ds"
      refine int2 (by decide) ?_
      walk_at "ds"
      refine int2 ⟨by decide, by decide⟩ ?_
      walk_at "ds"
      refine int2 hm ?_
      exact go _ _ _ _ _
    walk_at "ds"
    refine int2 ⟨by decide, by decide, by decide⟩ ?_
    walk_at "ds"
    refine ifD (fun h1 => ?_) (fun h1 => ?_)
    · walk_at "ds"
      refine getK_i g_cells ?_
      walk_at "ds"
      refine ifD (fun h2 => ?_) (fun h2 => ?_)
      · walk_at "ds"
        refine int2 ⟨hm, hm2⟩ ?_
        walk_at "ds"
        refine sDct_i updG_same (by show 4 < sizeLine; decide) ?_
        rw [p_left, updG_updG]
        walk_at "ds"
        refine int2 hm ?_
        exact go _ _ _ _ _
      · first | exact tail | exact ifF tail | exact ifF (ifF tail)
    · first | exact tail | exact ifF tail | exact ifF (ifF tail)
def spFeed : DSp := fun ds G Q _ => ∃ ns, ds = [.scr ns] ∧ ∀ p G', Grow G G' → FeedOk G' p → G p = none → Q (.ref p) G'
theorem law_feed_rd : ∀ ds G Q E, spFeed ds G Q E → r_law_feed { nx := fun _ G' => Q .non G', rt := Q } (startD 1 ds) G := by
  rintro ds G Q E ⟨ns, rfl, hq⟩
  unfold r_law_feed
  walk_at "ds"
  refine iDisp fun p hp => ?_
  walk_at "ds"
  refine slS ?_
  walk_at "ds"
  refine dispEnd updG_same (by with_unfolding_all rfl) (by rfl) ?_
  refine hq p _ (Grow.upd2 hp (Grow.upd hp)) ⟨(ns.drop 0).take (min 63 ns.length), 0, 0, 0, ?_⟩ hp
  rw [updG_same]
  simp [mergeD, putD, feedKv, cutD, HT.sIx, List.map_take]
end K03

namespace K03
open PySem L2 Dl 
local macro_rules | `(tactic| walk_at "ds") => `(tactic| repeat' with_reducible first
  | fail "stuck")
mutual
/-- how many parts -/
def cW : Wk → Nat
  | .tick _ => 1
  | .sme _ _ _ => 1
  | .lop _ _ _ w => 1 + cW w
  | .eit ws => 1 + cWs ws
  | .row ws => 1 + cWs ws
  | .bes a b => 1 + (cW a + cW b)
def cWs : List Wk → Nat
  | [] => 0
  | w :: ws => cW w + cWs ws
end
mutual
/-- how many within one another at most -/
def dW : Wk → Nat
  | .tick _ => 1
  | .sme _ _ _ => 1
  | .lop _ _ _ w => 1 + dW w
  | .eit ws => 1 + dWs ws
  | .row ws => 1 + dWs ws
  | .bes a b => 1 + max (dW a) (dW b)
def dWs : List Wk → Nat
  | [] => 0
  | w :: ws => max (dW w) (dWs ws)
end
theorem cW_in : ∀ w : Wk, cW w = 1 + cWs (innW w)
  | .tick _ => by simp [cW, innW, cWs]
  | .sme _ _ _ => by simp [cW, innW, cWs]
  | .lop _ _ _ w => by simp [cW, innW, cWs]
  | .eit ws => by simp [cW, innW]
  | .row ws => by simp [cW, innW]
  | .bes a b => by simp [cW, innW, cWs]
theorem dW_in : ∀ w : Wk, dW w = 1 + dWs (innW w)
  | .tick _ => by simp [dW, innW, dWs]
  | .sme _ _ _ => by simp [dW, innW, dWs]
  | .lop _ _ _ w => by simp [dW, innW, dWs]
  | .eit ws => by simp [dW, innW]
  | .row ws => by simp [dW, innW]
  | .bes a b => by simp [dW, innW, dWs]
theorem cW_pos (w : Wk) : 1 ≤ cW w := by rw [cW_in]; omega
theorem dW_pos (w : Wk) : 1 ≤ dW w := by rw [dW_in]; omega
theorem cWs_mem : ∀ {ws : List Wk} {u : Wk}, u ∈ ws → cW u ≤ cWs ws
  | [], u, h => nomatch h
  | w :: ws, u, h => by
    rw [cWs]
    rcases List.mem_cons.mp h with rfl | h
    · omega
    · have := cWs_mem h; omega
theorem dWs_mem : ∀ {ws : List Wk} {u : Wk}, u ∈ ws → dW u ≤ dWs ws
  | [], u, h => nomatch h
  | w :: ws, u, h => by
    rw [dWs]
    rcases List.mem_cons.mp h with rfl | h
    · omega
    · have := dWs_mem h; omega
theorem cWs_len : ∀ ws : List Wk, ws.length ≤ cWs ws
  | [] => by simp
  | w :: ws => by have := cWs_len ws; have := cW_pos w; rw [cWs, List.length_cons]; omega
theorem inn_c {w u : Wk} (h : u ∈ innW w) : cW u < cW w := by have := cWs_mem h; rw [cW_in w]; omega
theorem inn_d {w u : Wk} (h : u ∈ innW w) : dW u < dW w := by have := dWs_mem h; rw [dW_in w]; omega
theorem inn_len (w : Wk) : (innW w).length < cW w := by have := cWs_len (innW w); rw [cW_in w]; omega
theorem okWs_mem {B : Int} : ∀ {ws : List Wk} {u : Wk}, okWs B ws → u ∈ ws → okW B u
  | [], u, _, h => nomatch h
  | w :: ws, u, k, h => by
    rw [okWs] at k
    rcases List.mem_cons.mp h with rfl | h
    · exact k.1
    · exact okWs_mem k.2 h
theorem inn_ok {B : Int} {w u : Wk} (k : okW B w) (h : u ∈ innW w) : okW B u := by
  cases w with
  | tick n => cases h
  | sme a b t => cases h
  | lop a b t v => rw [okW] at k; rw [innW, List.mem_singleton] at h; subst h; exact k.2.2.2
  | eit ws => rw [okW] at k; exact okWs_mem k.2 h
  | row ws => rw [okW] at k; exact okWs_mem k h
  | bes a b =>
    rw [okW] at k
    simp only [innW, List.mem_cons, List.not_mem_nil, or_false] at h
    rcases h with rfl | rfl
    · exact k.1
    · exact k.2
mutual
theorem pre_len : ∀ (w : Wk) (p : Pth), (preW p w).length = cW w
  | .tick _, p => by simp [preW, cW]
  | .sme _ _ _, p => by simp [preW, cW]
  | .lop _ _ _ w, p => by simp [preW, cW, pre_len w]; omega
  | .eit ws, p => by simp [preW, cW, pres_len ws]; omega
  | .row ws, p => by simp [preW, cW, pres_len ws]; omega
  | .bes a b, p => by simp [preW, cW, pre_len a, pre_len b]; omega
theorem pres_len : ∀ (ws : List Wk) (p : Pth) (k : Nat), (preWs p k ws).length = cWs ws
  | [], p, k => by simp [preWs, cWs]
  | w :: ws, p, k => by simp [preWs, cWs, pre_len w, pres_len ws]
end
theorem along_ind {P : Wk → Prop} (hP : ∀ w u, P w → u ∈ innW w → P u) : ∀ (r : Pth) (w : Wk) (l : List Wk), P w → alongW w r = some l → ∀ u ∈ l, P u
  | [], w, l, h, e, u, hu => by
    rw [alongW] at e; cases e
    rw [List.mem_singleton] at hu; subst hu; exact h
  | k :: r, w, l, h, e, u, hu => by
    rw [alongW] at e
    split at e
    · rename_i v hv
      obtain ⟨l', e', rfl⟩ := Option.map_eq_some_iff.mp e
      rcases List.mem_cons.mp hu with rfl | hu
      · exact h
      · exact along_ind hP r v l' (hP w v h (List.mem_of_getElem? hv)) e' u hu
    · cases e
theorem pre_ind {P : Wk → Prop} (hP : ∀ w u, P w → u ∈ innW w → P u) {w : Wk} {p : Pth} {q : Pth × Wk} (h : P w) (hq : q ∈ preW p w) : P q.2 := by
  obtain ⟨r, l, e1, e2, e3, e4⟩ := pre_along w p q hq
  exact along_ind hP r w l h e2 _ (List.mem_of_getLast? e3)
theorem along_dep : ∀ (r : Pth) (w : Wk) (l : List Wk), alongW w r = some l → r.length + 1 ≤ dW w
  | [], w, l, e => dW_pos w
  | k :: r, w, l, e => by
    rw [alongW] at e
    split at e
    · rename_i v hv
      obtain ⟨l', e', rfl⟩ := Option.map_eq_some_iff.mp e
      have := along_dep r v l' e'
      have := inn_d (List.mem_of_getElem? hv)
      rw [List.length_cons]; omega
    · cases e
theorem along_len : ∀ (r : Pth) (w : Wk) (l : List Wk), alongW w r = some l → l.length = r.length + 1
  | [], w, l, e => by rw [alongW] at e; cases e; rfl
  | k :: r, w, l, e => by
    rw [alongW] at e
    split at e
    · obtain ⟨l', e', rfl⟩ := Option.map_eq_some_iff.mp e
      rw [List.length_cons, List.length_cons, along_len r _ l' e']
    · cases e
theorem pre_plen {w : Wk} {p : Pth} {q : Pth × Wk} (hq : q ∈ preW p w) : q.1.length + 1 ≤ p.length + dW w := by
  obtain ⟨r, l, e1, e2, e3, e4⟩ := pre_along w p q hq
  have := along_dep r w l e2
  rw [e1, List.length_append]; omega
structure Gw (w : Wk) (n d : Nat) : Prop where
  ok : okW 999 w
  c : cW w ≤ n
  d : dW w ≤ d
theorem Gw.inn {w u : Wk} {n d : Nat} (h : Gw w n d) (hu : u ∈ innW w) : Gw u n d := ⟨inn_ok h.ok hu, by have := inn_c hu; have := h.c; omega, by have := inn_d hu; have := h.d; omega⟩
theorem Gw.part {w : Wk} {n d : Nat} {p : Pth} {q : Pth × Wk} (h : Gw w n d) (hq : q ∈ preW p w) : Gw q.2 n d := pre_ind (P := fun u => Gw u n d) (fun _ _ h hu => h.inn hu) h hq
theorem pres_at {p : Pth} : ∀ {ws : List Wk} {k j : Nat} {u : Wk}, ws[j]? = some u → ∀ q ∈ preW (p ++ [k + j]) u, q ∈ preWs p k ws
  | [], k, j, u, h => by simp at h
  | w :: ws, k, 0, u, h => by
    simp at h; subst h
    intro q hq
    rw [preWs, List.mem_append]; exact .inl hq
  | w :: ws, k, j + 1, u, h => by
    intro q hq
    rw [preWs, List.mem_append]
    refine .inr (pres_at (k := k + 1) (j := j) (by simpa using h) q ?_)
    rw [show k + 1 + j = k + (j + 1) by omega]; exact hq
theorem along_pre : ∀ (r : Pth) (w : Wk) (p : Pth) (l : List Wk) (u : Wk), alongW w r = some l → l.getLast? = some u → (p ++ r, u) ∈ preW p w
  | [], w, p, l, u, e, e2 => by
    rw [alongW] at e; cases e
    cases e2
    rw [List.append_nil, preW_eq]; exact List.mem_cons_self ..
  | k :: r, w, p, l, u, e, e2 => by
    rw [alongW] at e
    split at e
    · rename_i v hv
      obtain ⟨l', e', rfl⟩ := Option.map_eq_some_iff.mp e
      have hl : l' ≠ [] := by have := along_len r v l' e'; rintro rfl; simp at this
      have e3 : l'.getLast? = some u := by rw [List.getLast?_cons] at e2; obtain ⟨z, hz⟩ : ∃ z, l'.getLast? = some z := ⟨_, List.getLast?_eq_some_getLast hl⟩; rw [hz] at e2 ⊢; simpa using e2
      have := along_pre r v (p ++ [k]) l' u e' e3
      rw [preW_eq]
      refine List.mem_cons_of_mem _ (pres_at (k := 0) (j := k) hv _ ?_)
      rw [Nat.zero_add]
      simpa using this
    · cases e
def ixD (k : Nat) : D := .int (k : Nat)
def pthD (p : Pth) : D := .tup (p.map ixD)
def prD (q : Pth × Wk) : D := .tup [pthD q.1, toD q.2]
mutual
theorem wtW : ∀ w : Wk, wtD (toD w) + 1 ≤ 100 * cW w
  | .tick n => by simp [toD, wtD, wtDs, cW, sl_tick]
  | .sme a b t => by simp [toD, wtD, wtDs, cW, sl_some]
  | .lop a b t w => by have h := wtW w; simp only [toD, wtD, wtDs, cW, sl_loop]; omega
  | .eit ws => by have h := wtWs ws; simp only [toD, wtD, wtDs, cW, sl_either]; omega
  | .row ws => by have h := wtWs ws; simp only [toD, wtD, wtDs, cW, sl_row]; omega
  | .bes a b => by have h1 := wtW a; have h2 := wtW b; simp only [toD, wtD, wtDs, cW, sl_beside]; omega
theorem wtWs : ∀ ws : List Wk, wtDs (toDs ws) ≤ 100 * cWs ws
  | [] => by simp [toDs, wtDs]
  | w :: ws => by have h1 := wtW w; have h2 := wtWs ws; simp only [toDs, wtDs, cWs]; omega
end
mutual
theorem dpW2 : ∀ w : Wk, dpW w ≤ 2 * dW w
  | .tick n => by simp [dpW, dW]
  | .sme a b t => by simp [dpW, dW]
  | .lop a b t w => by have := dpW2 w; simp only [dpW, dW]; omega
  | .eit ws => by have := dpWs2 ws; simp only [dpW, dW]; omega
  | .row ws => by have := dpWs2 ws; simp only [dpW, dW]; omega
  | .bes a b => by have := dpW2 a; have := dpW2 b; simp only [dpW, dW]; omega
theorem dpWs2 : ∀ ws : List Wk, dpWs ws ≤ 2 * dWs ws
  | [] => by simp [dpWs]
  | w :: ws => by have := dpW2 w; have := dpWs2 ws; simp only [dpWs, dWs]; omega
end
theorem sm_ix {k : Nat} (h : k < 10 ^ 12) : smD (ixD k) = true := by
  simp only [ixD, smD, decide_eq_true_eq]; omega
theorem sm_pth {p : Pth} (h : ∀ k ∈ p, k < 10 ^ 12) : smD (pthD p) = true := by
  simp only [pthD, smD]
  refine smDs_iff.mpr fun d hd => ?_
  obtain ⟨k, hk, rfl⟩ := List.mem_map.mp hd
  exact sm_ix (h k hk)
theorem dep_pth (p : Pth) : depD (pthD p) ≤ 1 := by
  simp only [pthD, depD]
  have : depDs (p.map ixD) ≤ 0 := depDs_le fun d hd => by obtain ⟨k, -, rfl⟩ := List.mem_map.mp hd; simp [ixD, depD]
  omega
theorem wt_pth (p : Pth) : wtD (pthD p) ≤ 41 * p.length := by
  simp only [pthD, wtD]
  have := wtDs_le (ds := p.map ixD) (n := 40) fun d hd => by obtain ⟨k, -, rfl⟩ := List.mem_map.mp hd; simp [ixD, wtD]
  rw [List.length_map] at this
  omega
theorem along_small : ∀ (r : Pth) (w : Wk) (l : List Wk), alongW w r = some l → ∀ k ∈ r, k < cW w
  | [], w, l, e, k, hk => nomatch hk
  | j :: r, w, l, e, k, hk => by
    rw [alongW] at e
    split at e
    · rename_i v hv
      obtain ⟨l', e', rfl⟩ := Option.map_eq_some_iff.mp e
      have h1 := (List.getElem?_eq_some_iff.mp hv).1
      have h2 := inn_len w
      have h3 := inn_c (List.mem_of_getElem? hv)
      rcases List.mem_cons.mp hk with rfl | hk
      · omega
      · have := along_small r v l' e' k hk; omega
    · cases e
theorem pre_small {w : Wk} {q : Pth × Wk} (hq : q ∈ preW [] w) : ∀ k ∈ q.1, k < cW w := by
  obtain ⟨r, l, e1, e2, e3, e4⟩ := pre_along w [] q hq
  rw [e1, List.nil_append]
  exact along_small r w l e2
end K03

namespace K03
open PySem L2 Dl 
local macro_rules | `(tactic| walk_at "ds") => `(tactic| repeat' with_reducible first
  | refine iVar (by with_unfolding_all rfl) ?_
  | refine iCons ?_
  | refine iNil ?_
  | refine iC ?_
  | refine iOp ?_
  | refine iSeq ?_
  | refine iAsg ?_
  | refine iGNm ?_
  | refine iTup ?_
  | refine iFrz ?_
  | refine iTst ?_
  | refine iIfS ?_
  | refine iRet ?_
  | refine iCall ?_
  | refine iLst ?_
  | refine iNext ?_
  | refine lstP_i (by assumption) ?_
  | refine lstP_i updG_same ?_
  | refine iRev ?_
  | refine revL ?_
  | refine iDrop ?_
  | refine iPar ?_
  | refine iGTp (by with_unfolding_all rfl) ?_
  | refine iGsCons ?_
  | refine iGsNil ?_
  | refine lenOk (by with_unfolding_all rfl) ?_
  | refine frzEnd ?_
  | refine lstC_t ?_
  | refine iIf ?_
  | refine ifT ?_
  | refine ifF ?_
  | refine iCB ?_
  | refine iMt ?_
  | refine iStar ?_
  | refine iFor ?_
  | refine rIx_i (by with_unfolding_all rfl) (by with_unfolding_all rfl) ?_
  | refine rIx_i (by with_unfolding_all rfl) atI_0 ?_
  | refine eq_strT ?_
  | refine eq_strF (by with_unfolding_all rfl) ?_
  | refine int0 ?_
  | refine len_l ?_
  | refine iIRg1 ?_
  | refine inn_T (by with_unfolding_all rfl) (by decide +kernel) (by decide +kernel) (by decide +kernel) ?_
  | refine inn_F (by with_unfolding_all rfl) (by decide +kernel) (by decide +kernel) (by decide +kernel) ?_
  | fail "stuck")
theorem forN (n : Nat) (f : Nat → D) {g : DTG} {tb : DTS} {E : DEnds} {J : Nat → DSt → GH → Prop} (h0 : ∀ ρ G, J n ρ G → E.nx ρ G)
    (h : ∀ k, k < n → ∀ ρ G, J k ρ G → ∀ K : DSt → GH → Prop, (∀ ρ' G', J (k + 1) ρ' G' → K ρ' G') → g (f k) ρ G fun ρ2 G2 => tb { E with nx := K, ct := K, bk := E.nx } ρ2 G2) :
    ∀ ρ G, J 0 ρ G → dForGo okAll g tb ((List.range n).map f) E ρ G := by
  intro ρ G j
  refine dForGo_of (I := fun rest ρ G => ∃ k, k ≤ n ∧ rest = ((List.range n).map f).drop k ∧ J k ρ G) ?_ ?_ _ _ _ ⟨0, Nat.zero_le _, rfl, j⟩
  · rintro ρ G ⟨k, hk, e, j⟩
    have : k = n := by
      have := congrArg List.length e
      rw [List.length_drop, List.length_map, List.length_range, List.length_nil] at this
      omega
    subst this
    exact ⟨trivial, h0 ρ G j⟩
  · rintro x rest ρ G ⟨k, hk, e, j⟩ K hK
    have hlt : k < n := by
      have := congrArg List.length e
      rw [List.length_drop, List.length_map, List.length_range, List.length_cons] at this
      omega
    rw [List.drop_eq_getElem_cons (by rw [List.length_map, List.length_range]; exact hlt)] at e
    injection e with e1 e2
    subst e2
    rw [e1, List.getElem_map, List.getElem_range]
    exact ⟨trivial, h k hlt ρ G j K fun ρ' G' j' => hK ρ' G' ⟨k + 1, hlt, rfl, j'⟩⟩
theorem iIEnL {te : DTE} {ρ : DSt} {G : GH} {Qi : List D → (GH → Prop) → GH → Prop} (h : te ρ G fun d G1 => match d with
  | .lst ds => Qi (enumD ds) okAll G1
  | _ => False) : iEnL te ρ G Qi := h
def Ri : List D → D → Prop := fun ds d => ∃ w, ds = [toD w] ∧ d = .lst (toDs (innW w))
theorem inner_works_rd : ∀ ds G Q E, pSp Ri ds G Q E → r_inner_works { nx := fun _ G' => Q .non G', rt := Q } (startD 1 ds) G := by
  rintro ds G Q E ⟨_, ⟨w, rfl, rfl⟩, hq⟩
  unfold r_inner_works
  have hq' := hq G (Grow.refl G)
  cases w <;> rw [toD] <;> walk_at "ds" <;> simpa [innW, toDs] using hq'
def spSubs : DSp := fun ds G Q _ => ∃ w, ds = [toD w] ∧ ∀ p G', Grow G G' → G p = none → G' p = some (.lst (toDs (innW w))) → Q (.ref p) G'
theorem law_subs_rd : ∀ ds G Q E, spSubs ds G Q E → r_law_subs { nx := fun _ G' => Q .non G', rt := Q } (startD 1 ds) G := by
  rintro ds G Q E ⟨w, rfl, hq⟩
  unfold r_law_subs
  have fin : ∀ l, l = toDs (innW w) → ∀ p, G p = none → Q (.ref p) (updG G p (.lst l)) := by
    rintro l rfl p hp
    exact hq p _ (Grow.upd hp) hp updG_same
  cases w <;> rw [toD] <;> walk_at "ds" <;> (intro p hp; refine fin _ ?_ p hp; simp [innW, toDs])
theorem prsW_len (p : Pth) (w : Wk) : (prsW p w).length = (innW w).length := by simp [prsW]
theorem enum_inn (ws : List Wk) : enumD (toDs ws) = ws.zipIdx.map fun q => D.tup [ixD q.2, toD q.1] := by
  rw [enumD_map]
  apply List.ext_getElem
  · simp
  · intro i h1 h2
    simp only [List.length_map, List.length_range, toDs_len] at h1
    simp [toDs_map, ixD, List.getElem_zipIdx, List.getD, h1]
def Rip : List D → D → Prop := fun ds d => ∃ p w, ds = [pthD p, toD w] ∧ p.length ≤ 1000 ∧ cW w ≤ 1000 ∧ d = .lst ((prsW p w).map prD)
theorem inner_pairs_rd : ∀ ds G Q E, pSp Rip ds G Q E → r_inner_pairs (pSp Ri) { nx := fun _ G' => Q .non G', rt := Q } (startD 4 ds) G := by
  rintro ds G Q E ⟨_, ⟨p, w, rfl, hp, hc, rfl⟩, hq⟩
  unfold r_inner_pairs
  have hl := inn_len w
  walk_at "ds"
  refine lcF (innW w).zipIdx (fun q => .tup [ixD q.2, toD q.1]) (fun q => prD (p ++ [q.2], q.1)) ?_ ?_ ?_ ?_
  · intro P hP
    refine iIEnL ?_
    walk_at "ds"
    refine ⟨_, ⟨w, rfl, rfl⟩, fun G1 g1 => ?_⟩
    show P (enumD (toDs (innW w))) okAll G1
    rw [enum_inn]
    exact hP _ _ (fun _ => trivial) g1
  · rw [List.length_zipIdx]; show _ ≤ sizeLine; have : (1000 : Nat) ≤ sizeLine := by decide
    omega
  · intro q hqm
    refine ⟨_, rfl, fun G1 K hK => ?_⟩
    have : (1002 : Nat) ≤ sizeLine := by decide
    walk_at "ds"
    refine ⟨by simp [ixD]; omega, ?_⟩
    walk_at "ds"
    have e : D.tup [D.tup (p.map ixD ++ [ixD q.2]), toD q.1] = prD (p ++ [q.2], q.1) := by simp [prD, pthD]
    rw [e]
    exact hK _ (Grow.refl _)
  · intro G1 g1
    have e : (innW w).zipIdx.map (fun q => prD (p ++ [q.2], q.1)) = (prsW p w).map prD := by rw [prsW, List.map_map]; rfl
    rw [e]
    exact hq _ g1
theorem lotW_ge : ∀ V : List (Pth × Wk), V.length ≤ (lotW V).length := by
  intro V
  unfold lotW
  rw [List.length_flatMap]
  have : ∀ U : List (Pth × Wk), U.length ≤ (U.map fun q => (preW q.1 q.2).length).sum := by
    intro U
    induction U with
    | nil => simp
    | cons q U ih => rw [List.map_cons, List.sum_cons, List.length_cons, pre_len]; have := cW_pos q.2; omega
  have := this V.reverse
  rw [List.length_reverse] at this
  exact this
def Rall : List D → D → Prop := fun ds d => ∃ w, ds = [toD w] ∧ cW w ≤ 400 ∧ dW w ≤ 400 ∧ d = .lst ((preW [] w).map prD)
theorem all_pairs_rd : ∀ ds G Q E, pSp Rall ds G Q E → r_all_pairs (pSp Rip) { nx := fun _ G' => Q .non G', rt := Q } (startD 5 ds) G := by
  rintro ds G Q E ⟨_, ⟨w, rfl, hc, hd, rfl⟩, hq⟩
  unfold r_all_pairs
  have hz : (2000 : Nat) ≤ sizeLine := by decide
  walk_at "ds"
  intro f hf
  walk_at "ds"
  intro q hqn
  have hfq : f ≠ q := by rintro rfl; rw [updG_same] at hqn; cases hqn
  have hqn' : G q = none := by rw [updG_ne (Ne.symm hfq)] at hqn; exact hqn
  walk_at "ds"
  refine dWhile_of (I := fun n ρ G' => ∃ x3 x4 done V, ρ = [some (toD w), some (.ref f), some (.ref q), x3, x4] ∧ G' f = some (.lst (done.map prD)) ∧ G' q = some (.lst (V.map prD)) ∧ done ++ lotW V = preW [] w ∧ (lotW V).length = n ∧ Grow G G') ?_ (lotW [([], w)]).length _ _
    ⟨_, _, [], [([], w)], rfl, by rw [updG_ne hfq, updG_same]; rfl, by rw [updG_same]; rfl, by rw [lotW_one]; rfl, rfl, Grow.upd2 hqn' (Grow.upd hf)⟩
  rintro n ρ G1 ⟨x3, x4, done, V, rfl, ef, eq, eD, en, g1⟩ K hK
  walk_at "ds"
  refine len_r eq ?_
  walk_at "ds"
  rw [List.length_map]
  have tot : done.length + n = cW w := by rw [← pre_len w [], ← eD, List.length_append, en]
  have hV := lotW_ge V
  refine ifD (fun h => ?_) (fun h => ?_)
  · rcases List.eq_nil_or_concat V with rfl | ⟨V', ⟨p, u⟩, rfl⟩
    · simp at h
    rw [List.concat_eq_append] at eq eD en hV
    rw [List.map_append] at eq
    have hm : (p, u) ∈ preW [] w := by rw [← eD, lotW_pop]; simp
    have hpl := pre_plen hm
    have hcu : cW u ≤ cW w := pre_ind (P := fun u => cW u ≤ cW w) (fun a b h hb => by have := inn_c hb; omega) (Nat.le_refl _) hm
    have hiu := inn_len u
    walk_at "ds"
    refine pop_i eq ?_
    rw [show prD (p, u) = D.tup [pthD p, toD u] from rfl]
    have ef2 : updG G1 q (.lst (V'.map prD)) f = some (.lst (done.map prD)) := by rw [updG_ne hfq]; exact ef
    walk_at "ds"
    refine app_i ef2 (by rw [List.length_map]; omega) ?_
    have eq2 : updG (updG G1 q (.lst (V'.map prD))) f (.lst (done.map prD ++ [D.tup [pthD p, toD u]])) q = some (.lst (V'.map prD)) := by rw [updG_ne (Ne.symm hfq), updG_same]
    walk_at "ds"
    refine ⟨_, ⟨p, u, rfl, by simp at hpl; omega, by omega, rfl⟩, fun G2 g2 => ?_⟩
    walk_at "ds"
    have e2 : G2 q = some (.lst (V'.map prD)) := g2 _ _ eq2
    have e1 : G2 f = some (.lst (done.map prD ++ [prD (p, u)])) := g2 _ _ (by rw [updG_same]; rfl)
    have hvl : V'.length + 1 ≤ n := by simp at hV; omega
    refine ext_i e2 (by with_unfolding_all rfl) (by simp [prsW_len]; omega) ?_
    walk_at "ds"
    refine hK ((lotW (V' ++ (prsW p u).reverse)).length) (by rw [lotW_pop] at en; simp at en; exact en) _ _ ⟨_, _, done ++ [(p, u)], V' ++ (prsW p u).reverse, rfl, by rw [updG_ne hfq, e1]; simp, by rw [updG_same]; simp, by rw [← eD, lotW_pop]; simp, rfl, ?_⟩
    exact Grow.upd2 hqn' (((Grow.upd2 hf (Grow.upd2 hqn' g1))).trans g2)
  · have hv0 : V = [] := by cases V with
      | nil => rfl
      | cons a t => simp at h
    subst hv0
    have eD' : done = preW [] w := by rw [← eD]; simp [lotW]
    walk_at "ds"
    refine frzR ef ?_
    rw [eD']
    exact hq _ (Grow.drop hf g1)
def RallL (n : Nat) : List D → D → Prop := fun ds d => ∃ w p, ds = [toD w, pthD p] ∧ cW w ≤ 400 ∧ dW w ≤ n ∧ p.length + dW w ≤ 400 ∧ d = .lst ((preW p w).map prD)
theorem pres_take (p : Pth) : ∀ (ws : List Wk) (k j : Nat) (u : Wk), ws[j]? = some u → preWs p k (ws.take j) ++ preW (p ++ [k + j]) u = preWs p k (ws.take (j + 1))
  | [], k, j, u, h => by simp at h
  | w :: ws, k, 0, u, h => by simp at h; subst h; simp [preWs]
  | w :: ws, k, j + 1, u, h => by
    have := pres_take p ws (k + 1) j u (by simpa using h)
    rw [show k + 1 + j = k + (j + 1) by omega] at this
    simp [preWs, this]
theorem law_all_rd {n : Nat} : ∀ ds G Q E, pSp (RallL (n + 1)) ds G Q E → r_law_all (pSp (RallL n)) spSubs { nx := fun _ G' => Q .non G', rt := Q } (startD 5 ds) G := by
  rintro ds G Q E ⟨_, ⟨w, p, rfl, hc, hd, hl, rfl⟩, hq⟩
  unfold r_law_all
  have hz : (2000 : Nat) ≤ sizeLine := by decide
  walk_at "ds"
  intro f hf
  walk_at "ds"
  refine ⟨w, rfl, fun pp G0 g0 hp0 e0 => ?_⟩
  refine frzR e0 ?_
  have g1 : Grow (updG G f (.lst [prD (p, w)])) (dropG G0 pp) := Grow.drop hp0 g0
  generalize dropG G0 pp = G1 at g1
  have ef : G1 f = some (.lst [prD (p, w)]) := g1 _ _ updG_same
  have gg : Grow G G1 := Grow.trans (Grow.upd hf) g1
  have hi := inn_len w
  walk_at "ds"
  rw [toDs_len]
  have n1 : (-(2:Int) ^ 62) ≤ 0 := by decide
  have n2 : (2:Int) ^ 62 = 4611686018427387904 := by decide
  refine ⟨by omega, by omega, ?_⟩
  rw [rngD_map]
  refine forN _ _ (J := fun k ρ G' => ∃ x4, ρ = [some (toD w), some (pthD p), some (.ref f), some (.lst (toDs (innW w))), x4] ∧ G' f = some (.lst ([prD (p, w)] ++ (preWs p 0 ((innW w).take k)).map prD)) ∧ Grow G G') ?_ ?_ _ _ ⟨_, rfl, by rw [ef]; simp [preWs], gg⟩
  · rintro ρ G2 ⟨x4, rfl, e2, g2⟩
    walk_at "ds"
    refine frzR e2 ?_
    have e : [prD (p, w)] ++ (preWs p 0 ((innW w).take (toDs (innW w)).length)).map prD = (preW p w).map prD := by rw [preW_eq p w]; simp
    simp only [toDs_len] at e
    simp only [Int.toNat_natCast] at *
    rw [e]
    exact hq _ (Grow.drop hf g2)
  · rintro k hk ρ G2 ⟨x4, rfl, e2, g2⟩ K hK
    simp only [Int.toNat_natCast] at hk
    obtain ⟨u, hu⟩ : ∃ u, (innW w)[k]? = some u := ⟨_, List.getElem?_eq_getElem hk⟩
    have hum := List.mem_of_getElem? hu
    have h1 := inn_c hum
    have h2 := inn_d hum
    walk_at "ds"
    refine rIx_i (d := toD u) (by with_unfolding_all rfl) ?_ ?_
    · rw [toDs_map]; rw [Int.zero_add]; exact Dl.atI_nat (by rw [List.getElem?_map, hu]; rfl)
    walk_at "ds"
    refine add_tt (by simp; omega) ?_
    refine ⟨_, ⟨u, p ++ [k], by simp [pthD, ixD], by omega, by omega, by simp; omega, rfl⟩, fun G3 g3 => ?_⟩
    walk_at "ds"
    refine ext_i (m := (preW (p ++ [k]) u).map prD) (g3 _ _ e2) ?_ ?_ ?_
    · rfl
    · have h5 : (preWs p 0 ((innW w).take k)).length ≤ cW w := by
        rw [pres_len]
        have : ∀ (ws : List Wk) (k : Nat), cWs (ws.take k) ≤ cWs ws := by
          intro ws
          induction ws with
          | nil => intro k; simp
          | cons a t ih => intro k; cases k with
            | zero => simp [cWs]
            | succ k => have := ih k; simp [cWs]; omega
        have := this (innW w) k
        rw [cW_in w]; omega
      simp [pre_len]; omega
    walk_at "ds"
    refine hK _ _ ⟨_, rfl, ?_, Grow.upd2 hf (g2.trans g3)⟩
    rw [updG_same, ← pres_take p (innW w) 0 k u hu]
    simp
end K03

namespace K03
open PySem L2 Dl 
local macro_rules | `(tactic| walk_at "ds") => `(tactic| repeat' with_reducible first
  | refine iVar (by with_unfolding_all rfl) ?_
  | refine iCons ?_
  | refine iNil ?_
  | refine iC ?_
  | refine iOp ?_
  | refine iFrz ?_
  | refine iRet ?_
  | refine iCall ?_
  | refine iLst ?_
  | refine lenOk (by with_unfolding_all rfl) ?_
  | refine frzEnd ?_
  | refine iCB ?_
  | refine iISq ?_
  | refine add_ii ?_
  | refine len_l ?_
  | refine tupC_l ?_
  | fail "stuck")
def RdL (n : Nat) : List D → D → Prop := fun ds d => ∃ w, ds = [toD w] ∧ cW w ≤ 400 ∧ dW w ≤ n ∧ d = ixD (dW w)
end K03

namespace K03
open PySem L2 Dl 
local macro_rules | `(tactic| walk_at "ds") => `(tactic| repeat' with_reducible first
  | refine iVar (by with_unfolding_all rfl) ?_
  | refine iCons ?_
  | refine iNil ?_
  | refine iC ?_
  | refine iOp ?_
  | refine iSeq ?_
  | refine iAsg ?_
  | refine iGNm ?_
  | refine iTup ?_
  | refine iFrz ?_
  | refine iTst ?_
  | refine iIfS ?_
  | refine iRet ?_
  | refine iCall ?_
  | refine iNext ?_
  | refine iRev ?_
  | refine revT ?_
  | refine revL ?_
  | refine iGTp (by with_unfolding_all rfl) ?_
  | refine iGsCons ?_
  | refine iGsNil ?_
  | refine lenOk (by with_unfolding_all rfl) ?_
  | refine frzEnd ?_
  | refine slT ?_
  | refine iIf ?_
  | refine ifT ?_
  | refine ifF ?_
  | refine iSl ?_
  | refine iP ?_
  | refine iNoP ?_
  | refine iStar ?_
  | refine iFor ?_
  | refine rIx_i (by with_unfolding_all rfl) (by with_unfolding_all rfl) ?_
  | refine rIx_i (by with_unfolding_all rfl) atI_0 ?_
  | refine eq_strT ?_
  | refine eq_strF (by with_unfolding_all rfl) ?_
  | fail "stuck")
theorem cut_take (l : List D) (k : Nat) : cutD l none (some (k : Nat)) = l.take k := by
  have h0 : ¬ ((k : Int) < 0) := by omega
  unfold cutD HT.sIx
  simp [h0]
theorem cut_drop (l : List D) (k : Nat) : cutD l (some ((k : Nat) : Int)) none = l.drop k := by
  have h0 : ¬ ((k : Int) < 0) := by omega
  unfold cutD HT.sIx
  simp only [h0, if_false, Int.toNat_natCast, List.drop_zero, Nat.sub_zero]
  by_cases h : k ≤ l.length
  · rw [Nat.min_eq_left h]; exact List.take_of_length_le (by simp)
  · rw [Nat.min_eq_right (by omega), List.drop_of_length_le (show l.length ≤ l.length by omega), List.drop_of_length_le (show l.length ≤ k by omega)]; simp
theorem rev_zip {α β : Type} : ∀ (a : List α) (b : List β), a.length = b.length → (a.zip b).reverse = a.reverse.zip b.reverse
  | [], [], _ => rfl
  | x :: a, y :: b, h => by
    simp only [List.length_cons, Nat.add_right_cancel_iff] at h
    rw [List.zip_cons_cons, List.reverse_cons, rev_zip a b h, List.reverse_cons, List.reverse_cons, List.zip_append (by simpa using h)]; rfl
  | [], _ :: _, h => by simp at h
  | _ :: _, [], h => by simp at h
def Rpi : List D → D → Prop := fun ds d => ∃ w k x, ds = [toD w, ixD k, toD x] ∧ k < (innW w).length ∧ (innW w).length ≤ 1000 ∧ d = toD (setW w k x)
theorem put_inner_rd : ∀ ds G Q E, pSp Rpi ds G Q E → r_put_inner { nx := fun _ G' => Q .non G', rt := Q } (startD 4 ds) G := by
  rintro ds G Q E ⟨_, ⟨w, k, x, rfl, hk, hn, rfl⟩, hq⟩
  unfold r_put_inner
  have hz : (2000 : Nat) ≤ sizeLine := by decide
  have hq' := hq G (Grow.refl G)
  have rowlike : ∀ (s : String) (ws : List Wk), k < ws.length → ws.length ≤ 1000 → (s == "loop") = false → (s == "beside") = false → (Q (.tup [.str s, .tup (toDs (ws.set k x))]) G) →
      (dSeq (dAsg (dOp rIx (dVar 0) (dC (.int 0))) (gNm 3))
  (dSeq (dIfS (dTst (dOp rEqv (dVar 3) (dC (.str "loop"))))
  (dRet (dTup (dStar (dSl (dVar 0) dNoP (dP (dC (.int 4)))) (dCons (dVar 2) dNil))))
  dNext)
  (dSeq (dIfS (dTst (dOp rEqv (dVar 3) (dC (.str "beside"))))
  (dRet (dIf (dTst (dOp rEqv (dVar 1) (dC (.int 0)))) (dTup (dCons (dVar 3) (dCons (dVar 2) (dCons (dOp rIx (dVar 0) (dC (.int 2))) dNil)))) (dTup (dCons (dVar 3) (dCons (dOp rIx (dVar 0) (dC (.int 1))) (dCons (dVar 2) dNil))))))
  dNext)
  (dRet (dTup (dCons (dVar 3) (dCons (dTup (dStar (dSl (dOp rIx (dVar 0) (dC (.int 1))) dNoP (dP (dVar 1))) (dCons (dVar 2) (dStar (dSl (dOp rIx (dVar 0) (dC (.int 1))) (dP (dOp rAdd (dVar 1) (dC (.int 1)))) dNoP) dNil)))) dNil))))))) { nx := fun _ G' => Q .non G', rt := Q } (startD 4 [.tup [.str s, .tup (toDs ws)], ixD k, toD x]) G := by
    intro s ws hk hn e1 e2 h
    walk_at "ds"
    refine eq_strF e1 ?_
    walk_at "ds"
    refine eq_strF e2 ?_
    walk_at "ds"
    have e : (toDs (ws.set k x)) = cutD (toDs ws) none (some (k : Nat)) ++ toD x :: (cutD (toDs ws) (some ((k : Int) + 1)) none ++ []) := by
      rw [cut_take, show ((k : Int) + 1) = ((k + 1 : Nat) : Int) by omega, cut_drop, List.append_nil, toDs_map, toDs_map, List.map_set, List.set_eq_take_append_cons_drop, if_pos (by simpa using hk)]
    refine ⟨?_, ?_⟩
    · rw [← e, toDs_len, List.length_set]; omega
    walk_at "ds"
    rw [← e]; exact h
  cases w with
  | tick n => simp [innW] at hk
  | sme a b t => simp [innW] at hk
  | lop a b t v =>
    rw [toD]
    walk_at "ds"
    have e : cutD [D.str "loop", .int a, .int b, .bl t, toD v] none (some 4) = [D.str "loop", .int a, .int b, .bl t] := by
      rw [show (4 : Int) = ((4 : Nat) : Int) from rfl, cut_take]; rfl
    simp only [e]
    show 5 ≤ sizeLine ∧ Q (D.tup [.str "loop", .int a, .int b, .bl t, toD x]) G
    exact ⟨by decide, by simpa [setW, toD] using hq'⟩
  | bes a b =>
    rw [toD]
    walk_at "ds"
    simp [innW] at hk
    refine ifD (fun h => ?_) (fun h => ?_)
    · have : k = 0 := by simp [ixD] at h; omega
      subst this
      walk_at "ds"
      simpa [setW, toD] using hq'
    · obtain ⟨j, rfl⟩ : ∃ j, k = j + 1 := ⟨k - 1, by simp at h; omega⟩
      walk_at "ds"
      simpa [setW, toD] using hq'
  | row ws => rw [toD]; exact rowlike "row" ws hk hn (by decide +kernel) (by decide +kernel) (by simpa [setW, toD] using hq')
  | eit ws => rw [toD]; exact rowlike "either" ws hk hn (by decide +kernel) (by decide +kernel) (by simpa [setW, toD] using hq')
def stepsW (l : List Wk) (p : Pth) : List (Wk × Nat) := l.dropLast.zip p
theorem along_cons {w : Wk} {k : Nat} {r : Pth} {l : List Wk} (e : alongW w (k :: r) = some l) : ∃ v l', (innW w)[k]? = some v ∧ alongW v r = some l' ∧ l = w :: l' ∧ l' ≠ [] := by
  rw [alongW] at e
  split at e
  · rename_i v hv
    obtain ⟨l', e', rfl⟩ := Option.map_eq_some_iff.mp e
    exact ⟨v, l', hv, e', rfl, by have := along_len r v l' e'; rintro rfl; simp at this⟩
  · cases e
theorem put_fold (x : Wk) : ∀ (p : Pth) (w : Wk) (l : List Wk), alongW w p = some l → (stepsW l p).foldr (fun q y => setW q.1 q.2 y) x = putW x w p
  | [], w, l, e => by rw [alongW] at e; cases e; rfl
  | k :: r, w, l, e => by
    obtain ⟨v, l', hv, e', rfl, hl⟩ := along_cons e
    rw [stepsW, List.dropLast_cons_of_ne_nil hl, List.zip_cons_cons, List.foldr_cons, putW, hv]
    dsimp only
    rw [← put_fold x r v l' e']; rfl
theorem steps_ok : ∀ (p : Pth) (w : Wk) (l : List Wk), alongW w p = some l → ∀ q ∈ stepsW l p, q.2 < (innW q.1).length ∧ cW q.1 ≤ cW w
  | [], w, l, e, q, h => by rw [alongW] at e; cases e; cases h
  | k :: r, w, l, e, q, h => by
    obtain ⟨v, l', hv, e', rfl, hl⟩ := along_cons e
    rw [stepsW, List.dropLast_cons_of_ne_nil hl, List.zip_cons_cons, List.mem_cons] at h
    rcases h with rfl | h
    · exact ⟨(List.getElem?_eq_some_iff.mp hv).1, Nat.le_refl _⟩
    · have h1 := steps_ok r v l' e' q h
      have := inn_c (List.mem_of_getElem? hv)
      exact ⟨h1.1, by omega⟩
theorem zip_rev (l : List Wk) (p : Pth) (h : l.length = p.length + 1) : zipD (toDs l.dropLast).reverse (p.map ixD).reverse = (stepsW l p).reverse.map fun q => D.tup [toD q.1, ixD q.2] := by
  have e : l.dropLast.length = p.length := by rw [List.length_dropLast]; omega
  unfold zipD stepsW
  rw [toDs_map, ← List.map_reverse, ← List.map_reverse, List.zip_map, List.map_map, rev_zip _ _ e]
  rfl
theorem iIZpM {tl : DTA} {ρ : DSt} {G : GH} {Qi : List D → (GH → Prop) → GH → Prop} (h : tl ρ G fun ds G1 => match ds with
  | [.lst xs, .tup ys] => Qi (zipD xs ys) okAll G1
  | _ => False) : iZpM tl ρ G Qi := h
def Rpa : List D → D → Prop := fun ds d => ∃ w p x l, ds = [.lst (toDs l.dropLast), pthD p, toD x] ∧ alongW w p = some l ∧ cW w ≤ 1000 ∧ d = toD (putW x w p)
theorem put_along_rd : ∀ ds G Q E, pSp Rpa ds G Q E → r_put_along (pSp Rpi) { nx := fun _ G' => Q .non G', rt := Q } (startD 5 ds) G := by
  rintro ds G Q E ⟨_, ⟨w, p, x, l, rfl, hl, hc, rfl⟩, hq⟩
  unfold r_put_along
  have hk := steps_ok p w l hl
  rw [← put_fold x p w l hl] at hq
  rw [show pthD p = D.tup (p.map ixD) from rfl]
  walk_at "ds"
  refine iIZpM ?_
  walk_at "ds"
  show dForGo okAll _ _ (zipD (toDs l.dropLast).reverse (p.map ixD).reverse) _ _ _
  rw [zip_rev l p (along_len p w l hl)]
  refine dForGo_of (I := fun rest ρ G' => ∃ rs y x3 x4, rest = rs.map (fun q => D.tup [toD q.1, ixD q.2]) ∧ (∀ q ∈ rs, q ∈ stepsW l p) ∧ ρ = [some (.lst (toDs l.dropLast)), some (.tup (p.map ixD)), some (toD y), x3, x4] ∧ rs.foldl (fun y q => setW q.1 q.2 y) y = (stepsW l p).foldr (fun q y => setW q.1 q.2 y) x ∧ Grow G G') ?_ ?_ _ _ _
    ⟨(stepsW l p).reverse, x, _, _, rfl, fun q h => List.mem_reverse.mp h, rfl, by rw [List.foldl_reverse], Grow.refl G⟩
  · rintro ρ G1 ⟨rs, y, x3, x4, e0, -, rfl, e1, g1⟩
    cases rs with
    | cons => cases e0
    | nil =>
      refine ⟨trivial, ?_⟩
      walk_at "ds"
      rw [← e1] at hq
      exact hq _ g1
  · rintro z rest ρ G1 ⟨rs, y, x3, x4, e0, hm, rfl, e1, g1⟩ K hK
    cases rs with
    | nil => cases e0
    | cons q rs =>
      injection e0 with e2 e3
      subst e2 e3
      have h1 := hk q (hm q (List.mem_cons_self ..))
      have h2 := inn_len q.1
      refine ⟨trivial, ?_⟩
      walk_at "ds"
      refine ⟨_, ⟨q.1, q.2, y, rfl, h1.1, by omega, rfl⟩, fun G2 g2 => ?_⟩
      walk_at "ds"
      exact hK _ _ ⟨rs, _, _, _, rfl, fun q h => hm q (List.mem_cons_of_mem _ h), rfl, e1, g1.trans g2⟩
end K03

namespace K03
open PySem L2 Dl 
local macro_rules | `(tactic| walk_at "ds") => `(tactic| repeat' with_reducible first
  | refine iVar (by with_unfolding_all rfl) ?_
  | refine iCons ?_
  | refine iNil ?_
  | refine iC ?_
  | refine iOp ?_
  | refine iSeq ?_
  | refine iAsg ?_
  | refine iTup ?_
  | refine iFrz ?_
  | refine iTst ?_
  | refine iIfS ?_
  | refine iRet ?_
  | refine iCall ?_
  | refine iNext ?_
  | refine iPar ?_
  | refine iGSb ?_
  | refine lenOk (by with_unfolding_all rfl) ?_
  | refine slT ?_
  | refine iIf ?_
  | refine ifT ?_
  | refine ifF ?_
  | refine iCB ?_
  | refine iSl ?_
  | refine iP ?_
  | refine iNoP ?_
  | refine iISq ?_
  | refine rIx_i (by with_unfolding_all rfl) (by with_unfolding_all rfl) ?_
  | refine rIx_i (by with_unfolding_all rfl) atI_0 ?_
  | refine eq_strT ?_
  | refine eq_strF (by with_unfolding_all rfl) ?_
  | refine add_ttb (by with_unfolding_all rfl) ?_
  | refine inn_T (by with_unfolding_all rfl) (by decide +kernel) (by decide +kernel) (by decide +kernel) ?_
  | refine inn_F (by with_unfolding_all rfl) (by decide +kernel) (by decide +kernel) (by decide +kernel) ?_
  | fail "stuck")
theorem ok_pth (p : Pth) : okD (.tup (p.map ixD)) := by
  constructor
  · rw [pureD]
    induction p with
    | nil => simp [pureDs]
    | cons x xs ih => simp [pureDs, pureD, ixD, ih]
  · have := dep_pth p
    rw [pthD] at this
    omega
def RlpL (n : Nat) : List D → D → Prop := fun ds d => ∃ w p x l, ds = [toD w, pthD p, toD x] ∧ alongW w p = some l ∧ cW w ≤ 400 ∧ p.length < n ∧ d = toD (putW x w p)
theorem sub_tail {P : Wk → Prop} {ws : List Wk} {k : Nat} {v : Wk} (h : ws[k]? = some v) : (toDs ws)[k]? = some (toD v) := by
  rw [toDs_map, List.getElem?_map, h]; rfl
theorem law_put_rd {n : Nat} : ∀ ds G Q E, pSp (RlpL (n + 1)) ds G Q E → r_law_put (pSp (RlpL n)) spSubs { nx := fun _ G' => Q .non G', rt := Q } (startD 5 ds) G := by
  rintro ds G Q E ⟨_, ⟨w, p, x, l, rfl, hl, hc, hp, rfl⟩, hq⟩
  unfold r_law_put
  have hz : (2000 : Nat) ≤ sizeLine := by decide
  rw [show pthD p = D.tup (p.map ixD) from rfl]
  walk_at "ds"
  refine eq_tt (ok_pth p) (ok_pth []) ?_
  cases p with
  | nil =>
    rw [show eqvD (.tup (([] : Pth).map ixD)) (.tup []) = true from by decide +kernel]
    walk_at "ds"
    exact hq _ (Grow.refl G)
  | cons k r =>
    rw [show eqvD (.tup ((k :: r).map ixD)) (.tup []) = false from by simp [eqvD, eqvDs]]
    obtain ⟨v, l', hv, e', rfl, hne⟩ := along_cons hl
    have hk := (List.getElem?_eq_some_iff.mp hv).1
    have hvc := inn_c (List.mem_of_getElem? hv)
    have hlen := inn_len w
    have epw : putW x w (k :: r) = setW w k (putW x v r) := by rw [putW, hv]
    rw [epw] at hq
    refine ifF ?_
    refine iNext ?_
    dsimp only
    refine seqC (fun ρ G1 => ∃ a, ρ = [some (toD w), some (.tup ((k :: r).map ixD)), some (toD x), some (ixD k), some (.ref a)] ∧ G a = none ∧ Grow G G1 ∧ G1 a = some (.lst (toDs (innW w)))) ?_ ?_
    · intro K hK
      walk_at "ds"
      refine ⟨w, rfl, fun a G1 g1 ha e1 => ?_⟩
      walk_at "ds"
      exact hK _ _ ⟨a, rfl, ha, g1, e1⟩
    rintro ρ G1 ⟨a, rfl, ha, g1, e1⟩
    refine seqC (fun ρ G1 => ρ = [some (toD w), some (.tup ((k :: r).map ixD)), some (toD x), some (ixD k), some (.ref a)] ∧ Grow G G1 ∧ G1 a = some (.lst (toDs ((innW w).set k (putW x v r))))) ?_ ?_
    · intro K hK
      walk_at "ds"
      refine rIx_r e1 (Dl.atI_nat (sub_tail (P := fun _ => True) hv)) ?_
      walk_at "ds"
      rw [List.map_cons, cut1]
      refine ⟨_, ⟨v, r, x, l', rfl, e', by omega, by simp at hp; omega, rfl⟩, fun G2 g2 => ?_⟩
      walk_at "ds"
      refine sLst_i (g2 _ _ e1) (ixN_at (by rw [toDs_len]; exact hk)) ?_
      refine hK _ _ ⟨rfl, Grow.upd2 ha (g1.trans g2), ?_⟩
      rw [updG_same, toDs_map, toDs_map, List.map_set]
    rintro ρ G2 ⟨rfl, g2, e2⟩
    cases w with
    | tick n => simp [innW] at hk
    | sme a b t => simp [innW] at hk
    | lop a b t u =>
      have hk0 : k = 0 := by simp [innW] at hk; omega
      subst hk0
      rw [toD]
      have e : cutD [D.str "loop", .int a, .int b, .bl t, toD u] none (some 4) = [D.str "loop", .int a, .int b, .bl t] := by
        rw [show (4 : Int) = ((4 : Nat) : Int) from rfl, cut_take]; rfl
      simp [innW, toDs] at e2
      walk_at "ds"
      rw [e]
      refine rIx_r e2 atI_0 ?_
      walk_at "ds"
      simpa [setW, toD] using hq _ g2
    | bes a b =>
      rw [toD]
      simp [innW] at hk
      obtain rfl | rfl : k = 0 ∨ k = 1 := by omega
      · simp [innW, toDs] at e2
        walk_at "ds"
        refine rIx_r e2 atI_0 ?_
        walk_at "ds"
        refine rIx_r e2 atI_1 ?_
        walk_at "ds"
        simpa [setW, toD] using hq _ g2
      · simp [innW, toDs] at e2
        walk_at "ds"
        refine rIx_r e2 atI_0 ?_
        walk_at "ds"
        refine rIx_r e2 atI_1 ?_
        walk_at "ds"
        simpa [setW, toD] using hq _ g2
    | row ws =>
      rw [toD]
      walk_at "ds"
      refine tupC_r e2 ?_
      walk_at "ds"
      simpa [setW, toD, innW] using hq _ g2
    | eit ws =>
      rw [toD]
      walk_at "ds"
      refine tupC_r e2 ?_
      walk_at "ds"
      simpa [setW, toD, innW] using hq _ g2
def spFewL (n : Nat) : DSp := fun ds G Q _ => ∃ w, ds = [toD w] ∧ okW 999 w ∧ cW w ≤ 400 ∧ dW w ≤ n ∧ ∀ (i : Int) G', Grow G G' → Q (.int i) G'
theorem law_fewest_rd {n : Nat} : ∀ ds G Q E, spFewL (n + 1) ds G Q E → r_law_fewest spSubs (spFewL n) { nx := fun _ G' => Q .non G', rt := Q } (startD 3 ds) G := by
  rintro ds G Q E ⟨w, rfl, hok, hc, hd, hq⟩
  unfold r_law_fewest
  have hz : (2000 : Nat) ≤ sizeLine := by decide
  have hlen := inn_len w
  have mid : ∀ (s : Str) (its : List D) (K : DSt → GH → Prop), toD w = .tup (.str s :: its) → (∀ l G', (∀ y ∈ l, ∃ i : Int, y = .int i) → l.length = (innW w).length → Grow G G' → K [some (toD w), some (.lst l), none] G') → (dAsg (dFrz (dLc (iSq (dFrz (dCall spSubs (dCons (dVar 0) dNil)))) (.one 2) dYes (dCall (spFewL n) (dCons (dVar 2) dNil)) [2])) (gNm 1)) { nx := K, rt := Q } [some (toD w), none, none] G := by
    intro s its K e hK
    walk_at "ds"
    refine lcP (innW w) toD (fun y => ∃ i : Int, y = .int i) ?_ ?_ ?_ ?_
    · intro P hP
      walk_at "ds"
      refine ⟨w, rfl, fun pp G0 g0 hp0 e0 => frzR e0 ?_⟩
      rw [toDs_map]
      exact hP _ _ (fun _ => trivial) (Grow.drop hp0 g0)
    · omega
    · intro u hu
      have h1 := inn_c hu
      have h2 := inn_d hu
      refine ⟨_, rfl, fun G1 K hK => ?_⟩
      walk_at "ds"
      exact ⟨u, rfl, inn_ok hok hu, by omega, by omega, fun i G2 g2 => hK _ _ ⟨i, rfl⟩ g2⟩
    · intro l G1 h1 h2 g1
      exact hK l G1 h1 h2 g1
  have sums : ∀ (l : List D) (G1 : GH), (∀ y ∈ l, ∃ i : Int, y = .int i) → Grow G G1 → rSumC [.lst l] G1 Q := by
    intro l G1 h g
    obtain ⟨ns, e, -⟩ := intsD_all h
    show (match intsD l with | some ns => Q (.int ns.sum) G1 | none => False)
    rw [e]
    exact hq _ _ g
  cases w with
  | tick m => rw [toD]; walk_at "ds"; exact hq _ _ (Grow.refl G)
  | sme a b t => rw [toD]; walk_at "ds"; exact hq _ _ (Grow.refl G)
  | lop a b t u =>
    have := mid "loop" [.int a, .int b, .bl t, toD u]
    rw [toD] at this ⊢
    walk_at "ds"
    refine this _ rfl fun l G1 h1 h2 g1 => ?_
    walk_at "ds"
    cases l with
    | nil => simp [innW] at h2
    | cons y l =>
      obtain ⟨i, rfl⟩ := h1 y (List.mem_cons_self ..)
      walk_at "ds"
      rw [okW] at hok
      refine mul_ii (.inl ⟨?_, ?_⟩) ?_
      · have : (-2 ^ 64 : Int) < 0 := by decide
        omega
      · have : (2 : Int) ^ 64 = 18446744073709551616 := by decide
        omega
      exact hq _ _ g1
  | bes a b =>
    have := mid "beside" [toD a, toD b]
    rw [toD] at this ⊢
    walk_at "ds"
    refine this _ rfl fun l G1 h1 h2 g1 => ?_
    walk_at "ds"
    exact sums l _ h1 g1
  | row ws =>
    have := mid "row" [.tup (toDs ws)]
    rw [toD] at this ⊢
    walk_at "ds"
    refine this _ rfl fun l G1 h1 h2 g1 => ?_
    walk_at "ds"
    exact sums l _ h1 g1
  | eit ws =>
    have := mid "either" [.tup (toDs ws)]
    rw [toD] at this ⊢
    walk_at "ds"
    refine this _ rfl fun l G1 h1 h2 g1 => ?_
    walk_at "ds"
    obtain ⟨ns, e, e2⟩ := intsD_all h1
    show (match intsD l with | some ns => 0 < ns.length ∧ ∀ m, m ∈ ns → (∀ y, y ∈ ns → m ≤ y) → Q (.int m) G1 | none => False)
    rw [e]
    rw [okW] at hok
    have hp : 0 < ws.length := List.length_pos_iff.mpr hok.1
    refine ⟨?_, fun m _ _ => hq _ _ g1⟩
    simp [innW] at h2
    omega
end K03

namespace K03
open PySem L2 Dl 
local macro_rules | `(tactic| walk_at "ds") => `(tactic| repeat' with_reducible first
  | refine iVar (by with_unfolding_all rfl) ?_
  | refine iCons ?_
  | refine iNil ?_
  | refine iC ?_
  | refine iOp ?_
  | refine iAsg ?_
  | refine iGNm ?_
  | refine iFrz ?_
  | refine iRet ?_
  | refine iCall ?_
  | refine iLst ?_
  | refine iNext ?_
  | refine iXPa ?_
  | refine iXPt ?_
  | refine iXPs ?_
  | refine iXSeq ?_
  | refine iXDrop ?_
  | refine iXIfS ?_
  | refine iXCall ?_
  | refine iXRaise ?_
  | refine iNeg ?_
  | refine lstP_i (by assumption) ?_
  | refine lstP_i updG_same ?_
  | refine iDrop ?_
  | refine lenOk (by with_unfolding_all rfl) ?_
  | refine iTru ?_
  | refine truB ?_
  | refine iNot ?_
  | refine iAndVK ?_
  | refine andVT ?_
  | refine andVF ?_
  | refine iNotV ?_
  | refine iCB ?_
  | refine iMt ?_
  | refine iIsi ?_
  | refine iISq ?_
  | refine rIx_i (by with_unfolding_all rfl) (by with_unfolding_all rfl) ?_
  | refine rIx_i (by with_unfolding_all rfl) atI_0 ?_
  | refine int0 ?_
  | refine len_l ?_
  | refine isi_T (by with_unfolding_all rfl) (by decide +kernel) ?_
  | refine isi_F (by with_unfolding_all rfl) (by decide +kernel) ?_
  | refine ifNT ?_
  | refine ifNF ?_
  | fail "stuck")
def nuA (w : Str) (k : Int) : DX := ⟨"NotUsable", [("at", .int k), ("word", .str w)]⟩
abbrev nu (w : Str) : DX := nuA w (-1)
def ruO (b : Bool) (w : Str) (k : Int) : Except DX D := match b with
  | true => .ok .non
  | false => .error (nuA w k)
def RUx : List D → Except DX D → Prop := fun ds o => ∃ b w k, ds = [.bl b, .str w, .int k] ∧ o = ruO b w k
theorem require_usable_rd : ∀ ds G Q E, pSpX RUx ds G Q E → r_require_usable (fun x _ G' => E x G') { nx := fun _ G' => Q .non G', rt := Q } (startD 3 ds) G := by
  rintro ds G Q E ⟨o, ⟨b, w, k, rfl, rfl⟩, hq⟩
  unfold r_require_usable
  have e := hq G (Grow.refl G)
  cases b with
  | true => walk_at "ds"; exact e
  | false => walk_at "ds"; exact ⟨rfl, e⟩
def Pln : D → Bool
  | .non | .bl _ | .int _ | .str _ | .tup _ | .lst _ => true
  | _ => false
def isIntB : D → Bool
  | .int _ => true
  | _ => false
def isNumB : D → Bool
  | .int i => decide (0 ≤ i)
  | _ => false
def RIi (f : D → Bool) : List D → D → Prop := fun ds d => ∃ x, ds = [x] ∧ Pln x = true ∧ d = .bl (f x)
theorem is_integer_rd : ∀ ds G Q E, pSp (RIi isIntB) ds G Q E → r_is_integer { nx := fun _ G' => Q .non G', rt := Q } (startD 1 ds) G := by
  rintro ds G Q E ⟨_, ⟨x, rfl, hx, rfl⟩, hq⟩
  unfold r_is_integer
  have hq' := hq G (Grow.refl G)
  cases x <;> first | (simp [Pln] at hx; done) | (walk_at "ds" <;> exact hq')
theorem is_number_rd : ∀ ds G Q E, pSp (RIi isNumB) ds G Q E → r_is_number (pSp (RIi isIntB)) { nx := fun _ G' => Q .non G', rt := Q } (startD 1 ds) G := by
  rintro ds G Q E ⟨_, ⟨x, rfl, hx, rfl⟩, hq⟩
  unfold r_is_number
  walk_at "ds"
  refine ⟨_, ⟨x, rfl, hx, rfl⟩, fun G1 g1 => ?_⟩
  have hq' := hq _ g1
  cases x <;> first | (simp [Pln] at hx; done) | (simp only [isIntB]; walk_at "ds"; exact hq')
def alD : Wk → List D → Option (List Wk)
  | w, [] => some [w]
  | w, .int i :: xs => if 0 ≤ i then (match (innW w)[i.toNat]? with
    | some u => (alD u xs).map (w :: ·)
    | none => none) else none
  | _, _ :: _ => none
theorem alD_path : ∀ (p : Pth) (w : Wk), alD w (p.map ixD) = alongW w p
  | [], w => by simp [alD, alongW]
  | k :: p, w => by
    rw [List.map_cons, ixD, alD, alongW, if_pos (by omega), Int.toNat_natCast]
    cases (innW w)[k]? with
    | none => rfl
    | some u => dsimp only; rw [alD_path p u]
def waL (w : Wk) : D → Option (List Wk)
  | .tup xs => alD w xs
  | _ => none
theorem wa_path (w : Wk) (p : Pth) : waL w (pthD p) = alongW w p := alD_path p w
def waO (w : Wk) (x : D) : Except DX D := match waL w x with
  | some l => .ok (.lst (toDs l))
  | none => .error (nu "path")
structure WaOk (w : Wk) (x : D) : Prop where
  c : cW w ≤ 400
  pl : Pln x = true
  its : ∀ xs, x = .tup xs → (∀ y ∈ xs, Pln y = true) ∧ xs.length ≤ 1000
theorem waOk_path {w : Wk} {p : Pth} (h : cW w ≤ 400) (hp : p.length ≤ 1000) : WaOk w (pthD p) := ⟨h, rfl, fun xs e => by
  injection e with e; subst e
  exact ⟨fun y hy => by obtain ⟨k, -, rfl⟩ := List.mem_map.mp hy; rfl, by simpa using hp⟩⟩
def RWa : List D → Except DX D → Prop := fun ds o => ∃ w x, ds = [toD w, x] ∧ WaOk w x ∧ o = waO w x
theorem atI_last {α : Type} (xs : List α) (x : α) : atI (xs ++ [x]) (-1) = some x := by
  unfold atI ixN
  rw [if_neg (by decide), if_pos (by simp; omega)]
  have e : ((-1 : Int) + ((xs ++ [x]).length : Nat)).toNat = xs.length := by simp; omega
  show (xs ++ [x])[((-1 : Int) + ((xs ++ [x]).length : Nat)).toNat]? = some x
  rw [e]; simp
theorem iXFor {wi : DTI} {g : DTG} {tb : XTS} {Z : DZ} {E : DEnds} {ρ : DSt} {G : GH} (h : wi ρ G fun items ok G1 => dForGo ok g (tb Z) items E ρ G1) : xFor wi g tb Z E ρ G := h
theorem works_along_rd : ∀ ds G Q E, pSpX RWa ds G Q E → r_works_along (pSp (RIi isNumB)) (pSp Ri) (pSpX RUx) (fun x _ G' => E x G') { nx := fun _ G' => Q .non G', rt := Q } (startD 5 ds) G := by
  rintro ds G Q E ⟨_, ⟨w, x, rfl, hx, rfl⟩, hq⟩
  unfold r_works_along
  have hz : (3000 : Nat) ≤ sizeLine := by decide
  have hc := hx.c
  have bad : waL w x = none → ∀ G1, Grow G G1 → E (nu "path") G1 := fun e G1 g1 => by
    have := hq G1 g1
    unfold waO at this
    rw [e] at this
    exact this
  cases x with
  | tup xs =>
    obtain ⟨hy, hl⟩ := hx.its xs rfl
    walk_at "ds"
    refine ⟨_, ⟨true, "path", -1, rfl, rfl⟩, fun G1 g1 => ?_⟩
    dsimp only [ruO]
    walk_at "ds"
    intro f hf
    have hf' : G f = none := by
      cases e : G f with
      | none => rfl
      | some o => rw [g1 f o e] at hf; cases hf
    walk_at "ds"
    refine iXFor ?_
    walk_at "ds"
    refine dForGo_of (I := fun rest ρ G' => ∃ L u x3 x4, ρ = [some (toD w), some (.tup xs), some (.ref f), x3, x4] ∧ G' f = some (.lst (toDs (L ++ [u]))) ∧ alD w xs = (alD u rest).map (L ++ ·) ∧ cW u ≤ cW w ∧ (∀ y ∈ rest, Pln y = true) ∧ L.length + rest.length ≤ 1000 ∧ Grow G G') ?_ ?_ _ _ _
      ⟨[], w, _, _, rfl, by rw [updG_same]; rfl, by cases alD w xs <;> rfl, Nat.le_refl _, hy, by simpa using hl, Grow.upd2 hf' g1⟩
    · rintro ρ G2 ⟨L, u, x3, x4, rfl, e2, ea, -, -, -, g2⟩
      refine ⟨trivial, ?_⟩
      walk_at "ds"
      refine frzR e2 ?_
      have := hq _ (Grow.drop hf' g2)
      unfold waO waL at this
      dsimp only at this
      rw [ea] at this
      exact this
    · rintro y rest ρ G2 ⟨L, u, x3, x4, rfl, e2, ea, hcu, hys, hlen, g2⟩ K hK
      rw [List.length_cons] at hlen
      refine ⟨trivial, ?_⟩
      have hiu := inn_len u
      walk_at "ds"
      refine rIx_r (d := toD u) e2 (by rw [toDs_app]; exact atI_last _ _) ?_
      walk_at "ds"
      refine ⟨_, ⟨u, rfl, rfl⟩, fun G3 g3 => ?_⟩
      walk_at "ds"
      refine ⟨_, ⟨y, rfl, hys y (List.mem_cons_self ..), rfl⟩, fun G4 g4 => ?_⟩
      have noway : (∀ rest, alD u (y :: rest) = none) → ∀ G5, Grow G G5 → E (nu "path") G5 := fun h => bad (by unfold waL; dsimp only; rw [ea, h rest]; rfl)
      have e4 : G4 f = some (.lst (toDs (L ++ [u]))) := g4 _ _ (g3 _ _ e2)
      cases y with
      | int i =>
        simp only [isNumB]
        by_cases h0 : 0 ≤ i
        · rw [decide_eq_true h0]
          walk_at "ds"
          refine ⟨_, ⟨_, "path", -1, rfl, rfl⟩, fun G5 g5 => ?_⟩
          rw [toDs_len]
          by_cases h1 : i < ((innW u).length : Int)
          · rw [decide_eq_true h1]
            dsimp only [ruO]
            have e5 : G5 f = some (.lst (toDs (L ++ [u]))) := g5 _ _ e4
            obtain ⟨v, hv⟩ : ∃ v, (innW u)[i.toNat]? = some v := ⟨_, List.getElem?_eq_getElem (by omega)⟩
            have hcv := inn_c (List.mem_of_getElem? hv)
            walk_at "ds"
            refine rIx_i (d := toD v) rfl ?_ ?_
            · have : i = ((i.toNat : Nat) : Int) := by omega
              rw [this]
              exact Dl.atI_nat (by rw [toDs_map, List.getElem?_map, hv]; rfl)
            walk_at "ds"
            refine app_i e5 (by rw [toDs_len, List.length_append, List.length_singleton]; omega) ?_
            refine hK _ _ ⟨L ++ [u], v, _, _, rfl, ?_, ?_, by omega, fun y hy => hys y (List.mem_cons_of_mem _ hy), by rw [List.length_append, List.length_singleton]; omega, Grow.upd2 hf' (((g2.trans g3).trans g4).trans g5)⟩
            · rw [updG_same, toDs_app (L ++ [u])]; rfl
            · rw [ea, alD, if_pos h0, hv]
              dsimp only
              rw [Option.map_map]
              congr 1
              funext t
              simp
          · rw [decide_eq_false h1]
            refine noway (fun rest => ?_) _ (((g2.trans g3).trans g4).trans g5)
            rw [alD, if_pos h0, List.getElem?_eq_none (by omega)]
        · rw [decide_eq_false h0]
          walk_at "ds"
          refine ⟨_, ⟨_, "path", -1, rfl, rfl⟩, fun G5 g5 => ?_⟩
          refine noway (fun rest => ?_) _ (((g2.trans g3).trans g4).trans g5)
          rw [alD, if_neg h0]
      | _ =>
        simp only [isNumB]
        walk_at "ds"
        refine ⟨_, ⟨_, "path", -1, rfl, rfl⟩, fun G5 g5 => ?_⟩
        refine noway (fun rest => ?_) _ (((g2.trans g3).trans g4).trans g5)
        simp [alD]
  | ref _ => have := hx.pl; simp [Pln] at this
  | byt _ => have := hx.pl; simp [Pln] at this
  | scr _ => have := hx.pl; simp [Pln] at this
  | fn _ _ _ _ => have := hx.pl; simp [Pln] at this
  | exh _ _ _ _ _ => have := hx.pl; simp [Pln] at this
  | _ =>
    walk_at "ds"
    refine ⟨_, ⟨false, "path", -1, rfl, rfl⟩, fun G1 g1 => ?_⟩
    exact bad rfl G1 g1
end K03

namespace K03
open PySem L2 Dl 
local macro_rules | `(tactic| walk_at "ds") => `(tactic| repeat' with_reducible first
  | refine iVar (by with_unfolding_all rfl) ?_
  | refine iCons ?_
  | refine iNil ?_
  | refine iC ?_
  | refine iOp ?_
  | refine iSeq ?_
  | refine iAsg ?_
  | refine iGNm ?_
  | refine iTst ?_
  | refine iIfS ?_
  | refine iRet ?_
  | refine iCall ?_
  | refine iNext ?_
  | refine isN_T ?_
  | refine isN_F (by with_unfolding_all rfl) ?_
  | refine iTru ?_
  | refine truB ?_
  | refine iAnd ?_
  | refine iOr ?_
  | refine iNot ?_
  | refine ifDT (by decide) ?_
  | refine ifDF (by decide) ?_
  | refine iIf ?_
  | refine ifT ?_
  | refine ifF ?_
  | refine iCB ?_
  | refine iIsi ?_
  | refine rIx_i (by with_unfolding_all rfl) (by with_unfolding_all rfl) ?_
  | refine rIx_i (by with_unfolding_all rfl) atI_0 ?_
  | refine eq_strT ?_
  | refine eq_strF (by with_unfolding_all rfl) ?_
  | refine eq_ii ?_
  | refine int0 ?_
  | refine len_t ?_
  | refine inn_T (by with_unfolding_all rfl) (by decide +kernel) (by decide +kernel) (by decide +kernel) ?_
  | refine inn_F (by with_unfolding_all rfl) (by decide +kernel) (by decide +kernel) (by decide +kernel) ?_
  | refine isi_T (by with_unfolding_all rfl) (by decide +kernel) ?_
  | refine isi_F (by with_unfolding_all rfl) (by decide +kernel) ?_
  | refine ifNT ?_
  | refine ifNF ?_
  | refine ifDT (by with_reducible_and_instances first | omega | (simp only [List.length_cons, List.length_nil]; omega)) ?_
  | refine ifDF (by with_reducible_and_instances first | omega | (simp only [List.length_cons, List.length_nil]; omega)) ?_
  | fail "stuck")
def wordW : Wk → String
  | .tick _ => "tick"
  | .sme _ _ _ => "some"
  | .lop _ _ _ _ => "loop"
  | .eit _ => "either"
  | .row _ => "row"
  | .bes _ _ => "beside"
section
variable {ρ : DSt} {G : GH} {Q : DK} {i : Nat}
end
end K03

namespace K03
open PySem L2 Dl 
local macro_rules | `(tactic| walk_at "ds") => `(tactic| repeat' with_reducible first
  | refine iVar (by with_unfolding_all rfl) ?_
  | refine iCons ?_
  | refine iNil ?_
  | refine iC ?_
  | refine iOp ?_
  | refine iSeq ?_
  | refine iAsg ?_
  | refine iGNm ?_
  | refine iTup ?_
  | refine iFrz ?_
  | refine iTst ?_
  | refine iIfS ?_
  | refine iRet ?_
  | refine iCall ?_
  | refine iLst ?_
  | refine iNext ?_
  | refine iXPe ?_
  | refine iXPa ?_
  | refine iXPs ?_
  | refine iXSeq ?_
  | refine iXDrop ?_
  | refine iXRet ?_
  | refine iXAsg ?_
  | refine iXOp ?_
  | refine iXCall ?_
  | refine iNeg ?_
  | refine lstP_i (by assumption) ?_
  | refine lstP_i updG_same ?_
  | refine isN_T ?_
  | refine isN_F (by with_unfolding_all rfl) ?_
  | refine iRev ?_
  | refine revL ?_
  | refine iDrop ?_
  | refine iGTp (by with_unfolding_all rfl) ?_
  | refine iGsCons ?_
  | refine iGsNil ?_
  | refine lenOk (by with_unfolding_all rfl) ?_
  | refine frzEnd ?_
  | refine ifT ?_
  | refine ifF ?_
  | refine iCB ?_
  | refine iMt ?_
  | refine iSl ?_
  | refine iP ?_
  | refine iNoP ?_
  | refine rIx_i (by with_unfolding_all rfl) (by with_unfolding_all rfl) ?_
  | refine rIx_i (by with_unfolding_all rfl) atI_0 ?_
  | refine int0 ?_
  | fail "stuck")
theorem cut_last (l : List D) (d : D) : cutD (l ++ [d]) none (some (-1)) = l := by
  unfold cutD HT.sIx
  simp
  have : ((-1 : Int) + ((l.length : Int) + 1)).toNat = l.length := by omega
  rw [this]; simp
theorem along_snoc {w : Wk} {p : Pth} {l : List Wk} (e : alongW w p = some l) : ∃ L u, l = L ++ [u] := by
  have h := along_len p w l e
  rcases List.eq_nil_or_concat l with rfl | ⟨L, u, rfl⟩
  · simp at h
  · exact ⟨L, u, List.concat_eq_append⟩
end K03

namespace K03
open PySem L2 Dl 
local macro_rules | `(tactic| walk_at "ds") => `(tactic| repeat' with_reducible first
  | refine iVar (by with_unfolding_all rfl) ?_
  | refine iCons ?_
  | refine iNil ?_
  | refine iC ?_
  | refine iOp ?_
  | refine iSeq ?_
  | refine iAsg ?_
  | refine iGNm ?_
  | refine iTup ?_
  | refine iFrz ?_
  | refine iTst ?_
  | refine iIfS ?_
  | refine iRet ?_
  | refine iLst ?_
  | refine iNext ?_
  | refine iXPe ?_
  | refine iXRet ?_
  | refine iXCons ?_
  | refine iXTup ?_
  | refine iDSeqTry ?_
  | refine iIsX ?_
  | refine iExf ?_
  | refine iXAct (by with_unfolding_all rfl) ?_
  | refine lstP_i (by assumption) ?_
  | refine lstP_i updG_same ?_
  | refine iDrop ?_
  | refine lenOk (by with_unfolding_all rfl) ?_
  | refine frzEnd ?_
  | refine iTru ?_
  | refine truB ?_
  | refine iAnd ?_
  | refine iOr ?_
  | refine iIf ?_
  | refine ifT ?_
  | refine ifF ?_
  | refine iMt ?_
  | refine ifNT ?_
  | fail "stuck")
theorem cWs_set : ∀ {ws : List Wk} {k : Nat} {u : Wk} (x : Wk), ws[k]? = some u → cWs (ws.set k x) + cW u = cWs ws + cW x
  | [], k, u, x, h => by simp at h
  | w :: ws, 0, u, x, h => by simp at h; subst h; simp [cWs]; omega
  | w :: ws, k + 1, u, x, h => by
    have := cWs_set (k := k) x (show ws[k]? = some u by simpa using h)
    simp [cWs]; omega
theorem dWs_set : ∀ (ws : List Wk) (k : Nat) (x : Wk), dWs (ws.set k x) ≤ max (dWs ws) (dW x)
  | [], k, x => by simp [dWs]
  | w :: ws, 0, x => by simp [dWs]; omega
  | w :: ws, k + 1, x => by have := dWs_set ws k x; simp [dWs]; omega
theorem okWs_set {B : Int} : ∀ (ws : List Wk) (k : Nat) {x : Wk}, okWs B ws → okW B x → okWs B (ws.set k x)
  | [], k, x, h, hx => by simp [okWs]
  | w :: ws, 0, x, h, hx => by rw [okWs] at h; simp only [List.set_cons_zero, okWs]; exact ⟨hx, h.2⟩
  | w :: ws, k + 1, x, h, hx => by rw [okWs] at h; simp only [List.set_cons_succ, okWs]; exact ⟨h.1, okWs_set ws k h.2 hx⟩
theorem setW_ok {B : Int} {w u x : Wk} {k : Nat} (h : okW B w) (e : (innW w)[k]? = some u) (hx : okW B x) : okW B (setW w k x) := by
  cases w with
  | tick n => simp [innW] at e
  | sme a b t => simp [innW] at e
  | lop a b t v => rw [okW] at h; rw [setW, okW]; exact ⟨h.1, h.2.1, h.2.2.1, hx⟩
  | eit ws =>
    rw [okW] at h; rw [setW, okW]
    refine ⟨?_, okWs_set ws k h.2 hx⟩
    have := h.1
    cases ws with
    | nil => exact absurd rfl this
    | cons a t => cases k <;> simp
  | row ws => rw [okW] at h; rw [setW, okW]; exact okWs_set ws k h hx
  | bes a b =>
    rw [okW] at h
    cases k with
    | zero => rw [setW, okW]; exact ⟨hx, h.2⟩
    | succ k => simp only [setW, okW]; exact ⟨h.1, hx⟩
theorem setW_c {w u x : Wk} {k : Nat} (e : (innW w)[k]? = some u) : cW (setW w k x) + cW u = cW w + cW x := by
  cases w with
  | tick n => simp [innW] at e
  | sme a b t => simp [innW] at e
  | lop a b t v =>
    have : k = 0 := by have := (List.getElem?_eq_some_iff.mp e).1; simp [innW] at this; omega
    subst this
    simp [innW] at e; subst e
    simp [setW, cW]; omega
  | eit ws => have := cWs_set x e; simp only [innW, setW, cW] at *; omega
  | row ws => have := cWs_set x e; simp only [innW, setW, cW] at *; omega
  | bes a b =>
    have h2 := (List.getElem?_eq_some_iff.mp e).1
    simp [innW] at h2
    obtain rfl | rfl : k = 0 ∨ k = 1 := by omega
    · simp [innW] at e; subst e; simp [setW, cW]; omega
    · simp [innW] at e; subst e; simp [setW, cW]; omega
theorem setW_d (w x : Wk) (k : Nat) : dW (setW w k x) ≤ max (dW w) (1 + dW x) := by
  cases w with
  | tick n => simp [setW, dW]
  | sme a b t => simp [setW, dW]
  | lop a b t v => simp [setW, dW]; omega
  | eit ws => have := dWs_set ws k x; simp only [setW, dW]; omega
  | row ws => have := dWs_set ws k x; simp only [setW, dW]; omega
  | bes a b => cases k <;> simp [setW, dW] <;> omega
theorem seq_toD (w : Wk) : isSeqD (toD w) = true := by cases w <;> rw [toD] <;> rfl
theorem Gw.sm {w : Wk} {n d : Nat} (h : Gw w n d) : smD (toD w) = true := sm_toD (by decide) w h.ok
theorem Gw.dp {w : Wk} {n d : Nat} (h : Gw w n d) : depD (toD w) ≤ 2 * d := by rw [dep_toD]; have := dpW2 w; have := h.d; omega
theorem Gw.wt {w : Wk} {n d : Nat} (h : Gw w n d) : wtD (toD w) ≤ 100 * n := by have := wtW w; have := h.c; omega
theorem p20 : (2 : Nat) ^ 20 = 1048576 := by decide
theorem Gw.shw {w : Wk} {n d : Nat} (h : Gw w n d) (hn : n ≤ 1000) (hd : d ≤ 30) : Shw (toD w) := by
  refine shw_of (seq_toD w) h.sm (by have := h.dp; omega) ?_
  have := h.wt
  rw [p20]; omega
theorem Gw.okd {w : Wk} {n d : Nat} (h : Gw w n d) (hd : d ≤ 30) : okD (toD w) := okD_of h.sm (by have := h.dp; omega)
theorem eq_rl {p : Addr} {l b : List D} {G : GH} {Q : DK} (e : G p = some (.lst l)) (h1 : okD (.lst l)) (h2 : okD (.lst b)) (h : Q (.bl (eqvD (.lst l) (.lst b))) G) : rCmp id (.ref p) (.lst b) G Q := by
  unfold rCmp vw
  dsimp only
  rw [e]
  exact ⟨h1, h2, h⟩
theorem ne_rl {p : Addr} {l b : List D} {G : GH} {Q : DK} (e : G p = some (.lst l)) (h1 : okD (.lst l)) (h2 : okD (.lst b)) (h : Q (.bl (!eqvD (.lst l) (.lst b))) G) : rCmp not (.ref p) (.lst b) G Q := by
  unfold rCmp vw
  dsimp only
  rw [e]
  exact ⟨h1, h2, h⟩
theorem ok_bls (a b c d : Bool) : okD (.lst [.bl a, .bl b, .bl c, .bl d]) := ⟨by simp [pureD, pureDs], by simp [depD, depDs]⟩
theorem ct_use : (("NotUsable", ["NotUsable", "WorkError", "BarError"], ["word", "at"]) : Str × List Str × List Str) ∈ CT := by decide +kernel
theorem heard_use {α : Dl.Act} {w : Str} {k : Int} {G : GH} {Q : DK} (h : ∀ (E' : DXK) (Q' : DK), (∀ G', Grow G G' → E' (nuA w k) G') → α.tl E' G Q') (hq : ∀ G', Grow G G' → Q (.tup [.str "use", .str w, .int k]) G') :
    r_law_heard α { nx := fun _ G' => Q .non G', rt := Q } [some α.d, none, none, none] G := by
  unfold r_law_heard
  walk_at "ds"
  refine h _ _ fun G1 g1 => ?_
  refine ⟨⟨_, _, ct_use, by decide +kernel⟩, fun a d => ?_⟩
  walk_at "ds"
  refine ⟨⟨_, _, rfl⟩, _, _, ct_use, by decide +kernel, ?_⟩
  walk_at "ds"
  refine ⟨⟨_, _, rfl⟩, _, _, ct_use, by decide +kernel, ?_⟩
  rw [show (["NotUsable", "WorkError", "BarError"] : List Str).contains "PaperError" = false from by decide +kernel, show (["NotUsable", "WorkError", "BarError"] : List Str).contains "WorkError" = true from by decide +kernel]
  walk_at "ds"
  intro p hp
  walk_at "ds"
  refine ⟨⟨_, _, rfl⟩, _, _, ct_use, by decide +kernel, ?_⟩
  walk_at "ds"
  refine ⟨⟨_, _, rfl⟩, _, _, ct_use, by decide +kernel, ?_⟩
  rw [show (["NotUsable", "WorkError", "BarError"] : List Str).contains "LiveError" = false from by decide +kernel, show (["NotUsable", "WorkError", "BarError"] : List Str).contains "TextError" = false from by decide +kernel]
  walk_at "ds"
  refine ext_i (m := [.bl false, .bl false]) updG_same rfl (by decide) ?_
  walk_at "ds"
  refine eq_rl (l := [.bl false, .bl true, .bl false, .bl false]) updG_same (ok_bls ..) (ok_bls ..) ?_
  rw [show eqvD (.lst [.bl false, .bl true, .bl false, .bl false]) (.lst [.bl true, .bl false, .bl false, .bl false]) = false from by decide +kernel]
  walk_at "ds"
  refine eq_rl (l := [.bl false, .bl true, .bl false, .bl false]) updG_same (ok_bls ..) (ok_bls ..) ?_
  rw [show eqvD (.lst [.bl false, .bl true, .bl false, .bl false]) (.lst [.bl false, .bl false, .bl false, .bl true]) = false from by decide +kernel]
  walk_at "ds"
  refine ne_rl (l := [.bl false, .bl true, .bl false, .bl false]) updG_same (ok_bls ..) (ok_bls ..) ?_
  rw [show eqvD (.lst [.bl false, .bl true, .bl false, .bl false]) (.lst [.bl false, .bl true, .bl false, .bl false]) = true from by decide +kernel]
  walk_at "ds"
  refine ⟨⟨_, _, rfl⟩, _, _, ct_use, by decide +kernel, ?_⟩
  rw [show (["NotUsable", "WorkError", "BarError"] : List Str).contains "NotNext" = false from by decide +kernel]
  walk_at "ds"
  refine ⟨⟨_, _, rfl⟩, _, _, ct_use, by decide +kernel, ?_⟩
  rw [show (["NotUsable", "WorkError", "BarError"] : List Str).contains "NotUsable" = true from by decide +kernel]
  walk_at "ds"
  refine ⟨_, _, _, rfl, ⟨_, _, ct_use, by simp⟩, rfl, ?_⟩
  walk_at "ds"
  refine ⟨_, _, _, rfl, ⟨_, _, ct_use, by simp⟩, rfl, ?_⟩
  walk_at "ds"
  refine hq _ ?_
  rw [updG_updG]
  exact g1.trans (Grow.upd hp)
end K03

namespace K03
open PySem L2 Dl 
local macro_rules | `(tactic| walk_at "ds") => `(tactic| repeat' with_reducible first
  | refine iVar (by with_unfolding_all rfl) ?_
  | refine iCons ?_
  | refine iNil ?_
  | refine iC ?_
  | refine iOp ?_
  | refine iSeq ?_
  | refine iAsg ?_
  | refine iGNm ?_
  | refine iTup ?_
  | refine iFrz ?_
  | refine iTst ?_
  | refine iIfS ?_
  | refine iRet ?_
  | refine iCall ?_
  | refine iLst ?_
  | refine iNext ?_
  | refine iGTp (by with_unfolding_all rfl) ?_
  | refine iGsCons ?_
  | refine iGsNil ?_
  | refine lenOk (by with_unfolding_all rfl) ?_
  | refine frzEnd ?_
  | refine ifF ?_
  | refine iCB ?_
  | refine iFor ?_
  | refine iISq ?_
  | refine ne_strT ?_
  | refine len_l ?_
  | refine tupC_l ?_
  | fail "stuck")
theorem ne_shT {s : Str} {G : GH} {Q : DK} (h : Q (.bl false) G) : rCmp not (.str s) (.str s) G Q := ne_strT h
theorem repr_s {x : D} {G : GH} {Q : DK} (e : Shw x) (h : Q (.str (shD x)) G) : rRepr [x] G Q := by
  show Shw (vw G x) ∧ Q (.str (shD (vw G x))) G
  rw [vw_of e.ok.1]; exact ⟨e, h⟩
end K03

namespace K03
open PySem L2 Dl 
local macro_rules | `(tactic| walk_at "ds") => `(tactic| repeat' with_reducible first
  | refine iVar (by with_unfolding_all rfl) ?_
  | refine iCons ?_
  | refine iNil ?_
  | refine iC ?_
  | refine iOp ?_
  | refine iSeq ?_
  | refine iAsg ?_
  | refine iGNm ?_
  | refine iTup ?_
  | refine iFrz ?_
  | refine iTst ?_
  | refine iRet ?_
  | refine iLst ?_
  | refine iNeg ?_
  | refine lstP_i (by assumption) ?_
  | refine lstP_i updG_same ?_
  | refine iDrop ?_
  | refine lenOk (by with_unfolding_all rfl) ?_
  | refine frzEnd ?_
  | refine lstC_t ?_
  | refine iCB ?_
  | refine iMt ?_
  | refine iFor ?_
  | refine iISq ?_
  | fail "stuck")
theorem ch_last {w : Wk} {p : Pth} {l : List Wk} (e : alongW w p = some l) : ∃ u, (p, u) ∈ preW [] w := by
  obtain ⟨L, u, rfl⟩ := along_snoc e
  have := along_pre p w [] _ u e (by simp)
  exact ⟨u, by simpa using this⟩
theorem alD_app (x : D) (hx : ∀ i, x ≠ .int i) : ∀ (p : Pth) (w : Wk), alD w (p.map ixD ++ [x]) = none
  | [], w => by
    cases x with
    | int i => exact (hx i rfl).elim
    | _ => simp [alD]
  | k :: p, w => by
    rw [List.map_cons, List.cons_append, ixD, alD, if_pos (Int.natCast_nonneg k)]
    split
    · rename_i u hu; rw [alD_app x hx p u]; rfl
    · rfl
structure StOk (w : Wk) (y : D) : Prop where
  sh : ShwA y
  wa : WaOk w y
  no : waL w y = none ∨ ∃ p, y = pthD p
def iniS : List D := [.non, .int 0, .bl true, .str "", .lst [], .str "0", .tup [.int (-1)], .tup [.non], .tup [.bl true], .tup [.str "0"], .tup [.int 60], .tup [.tup [.int 0]], .tup [.int (10 ^ 59)], .lst [.int 0]]
theorem shwA_dec {y : D} (h : (pureD y && decide (depD y ≤ 64) && fewD y && decide ((shD y).length ≤ sizeLine)) = true) : ShwA y := by
  simp only [Bool.and_eq_true, decide_eq_true_eq] at h
  exact ⟨⟨h.1.1.1, h.1.1.2⟩, h.1.2, h.2⟩
theorem ini_sh : ∀ y ∈ iniS, ShwA y := fun y hy => by
  have : iniS.all (fun y => pureD y && decide (depD y ≤ 64) && fewD y && decide ((shD y).length ≤ sizeLine)) = true := by decide +kernel
  exact shwA_dec (List.all_eq_true.mp this y hy)
theorem ini_ok {w : Wk} (hc : cW w ≤ 400) : ∀ y ∈ iniS, StOk w y := fun y hy => by
  have hsh := ini_sh y hy
  simp only [iniS, List.mem_cons, List.not_mem_nil, or_false] at hy
  have tp : ∀ {x : D}, Pln x = true → WaOk w (.tup [x]) := fun {x} hx => ⟨hc, rfl, fun xs e => by
    injection e with e; subst e
    exact ⟨fun y hy => by rw [List.mem_singleton] at hy; subst hy; exact hx, by simp⟩⟩
  have pl : ∀ {y : D}, Pln y = true → (∀ xs, y ≠ .tup xs) → WaOk w y := fun h n => ⟨hc, h, fun xs e => (n xs e).elim⟩
  rcases hy with rfl | rfl | rfl | rfl | rfl | rfl | rfl | rfl | rfl | rfl | rfl | rfl | rfl | rfl
  · exact ⟨hsh, pl rfl (fun _ h => nomatch h), .inl rfl⟩
  · exact ⟨hsh, pl rfl (fun _ h => nomatch h), .inl rfl⟩
  · exact ⟨hsh, pl rfl (fun _ h => nomatch h), .inl rfl⟩
  · exact ⟨hsh, pl rfl (fun _ h => nomatch h), .inl rfl⟩
  · exact ⟨hsh, pl rfl (fun _ h => nomatch h), .inl rfl⟩
  · exact ⟨hsh, pl rfl (fun _ h => nomatch h), .inl rfl⟩
  · exact ⟨hsh, tp rfl, .inl (by simp [waL, alD])⟩
  · exact ⟨hsh, tp rfl, .inl (by simp [waL, alD])⟩
  · exact ⟨hsh, tp rfl, .inl (by simp [waL, alD])⟩
  · exact ⟨hsh, tp rfl, .inl (by simp [waL, alD])⟩
  · exact ⟨hsh, tp rfl, .inr ⟨[60], rfl⟩⟩
  · exact ⟨hsh, tp rfl, .inl (by simp [waL, alD])⟩
  · exact ⟨hsh, tp rfl, .inr ⟨[10 ^ 59], by simp [pthD, ixD]⟩⟩
  · exact ⟨hsh, pl rfl (fun _ h => nomatch h), .inl rfl⟩
theorem pth_sh {p : Pth} (h : ∀ k ∈ p, k < 10 ^ 12) (hl : p.length ≤ 100) : Shw (pthD p) := by
  refine shw_of rfl (sm_pth h) (by have := dep_pth p; omega) ?_
  have := wt_pth p
  rw [p20]; omega
def fourS (p : Pth) : List D := [.tup (p.map ixD ++ [.int 0]), .tup (p.map ixD ++ [.bl false]), .tup (p.map ixD ++ [.int 3]), .lst (p.map ixD)]
theorem four_ok {w : Wk} (hc : cW w ≤ 400) {p : Pth} (h : ∀ k ∈ p, k < 10 ^ 12) (hl : p.length ≤ 90) : ∀ y ∈ fourS p, StOk w y := fun y hy => by
  have e12 : (10 : Nat) ^ 12 = 1000000000000 := by decide
  have hp : ∀ k, k < 10 ^ 12 → StOk w (pthD (p ++ [k])) := fun k hk =>
    ⟨(pth_sh (fun j hj => by rcases List.mem_append.mp hj with q | q; exact h j q; rw [List.mem_singleton] at q; subst q; exact hk) (by simp; omega)).a, waOk_path hc (by simp; omega), .inr ⟨_, rfl⟩⟩
  have hw := wt_pth p
  have hd := dep_pth p
  have hsm := sm_pth h
  have hs2 : smDs (p.map ixD) = true := by simpa [pthD, smD] using hsm
  have hw2 : wtDs (p.map ixD) ≤ 41 * p.length := by simpa [pthD, wtD] using hw
  have hd2 : depDs (p.map ixD) ≤ 0 := by simp only [pthD, depD] at hd; omega
  simp only [fourS, List.mem_cons, List.not_mem_nil, or_false] at hy
  rcases hy with rfl | rfl | rfl | rfl
  · have := hp 0 (by omega); simpa [pthD, ixD] using this
  · refine ⟨(shw_of rfl ?_ ?_ ?_).a, ⟨hc, rfl, fun xs e => ?_⟩, .inl ?_⟩
    · simp only [smD]
      refine smDs_iff.mpr fun d hd => ?_
      rcases List.mem_append.mp hd with q | q
      · exact smDs_iff.mp hs2 d q
      · rw [List.mem_singleton] at q; subst q; rfl
    · have := depDs_le (ds := p.map ixD ++ [.bl false]) (n := 0) fun d hd => by
        rcases List.mem_append.mp hd with q | q
        · obtain ⟨k, -, rfl⟩ := List.mem_map.mp q; simp [ixD, depD]
        · rw [List.mem_singleton] at q; subst q; simp [depD]
      simp only [depD]; omega
    · have := wtDs_le (ds := p.map ixD ++ [.bl false]) (n := 40) fun d hd => by
        rcases List.mem_append.mp hd with q | q
        · obtain ⟨k, -, rfl⟩ := List.mem_map.mp q; simp [ixD, wtD]
        · rw [List.mem_singleton] at q; subst q; simp [wtD]
      rw [List.length_append, List.length_map, List.length_singleton] at this
      simp only [wtD]; rw [p20]; omega
    · injection e with e; subst e
      refine ⟨fun y hy => ?_, by simp; omega⟩
      rcases List.mem_append.mp hy with q | q
      · obtain ⟨k, -, rfl⟩ := List.mem_map.mp q; rfl
      · rw [List.mem_singleton] at q; subst q; rfl
    · exact alD_app _ (fun _ h => by cases h) p w
  · have := hp 3 (by omega); simpa [pthD, ixD] using this
  · exact ⟨(shw_of rfl (by simpa [smD] using hs2) (by simp only [depD]; omega) (by simp only [wtD]; rw [p20]; omega)).a, ⟨hc, rfl, fun xs e => (by cases e)⟩, .inl rfl⟩
def spStr : DSp := fun ds G Q _ => ∃ w : Wk, ds = [.lst ((preW [] w).map fun q => pthD q.1)] ∧ cW w ≤ 400 ∧ dW w ≤ 60 ∧ ∀ l G', Grow G G' → l.length ≤ 1614 → (∀ y ∈ l, WaOk w y ∧ waL w y = none ∧ okD y) → Q (.lst l) G'
theorem law_strays_in_rd : ∀ ds G Q E, spStr ds G Q E → r_law_strays_in { nx := fun _ G' => Q .non G', rt := Q } (startD 5 ds) G := by
  rintro ds G Q E ⟨w, rfl, hc, hd, hq⟩
  unfold r_law_strays_in
  have hz : (4000 : Nat) ≤ sizeLine := by decide
  have e12 : (10 : Nat) ^ 12 = 1000000000000 := by decide
  have hlen : (preW [] w).length ≤ 400 := by rw [pre_len]; exact hc
  have hsm : ∀ q ∈ preW [] w, (∀ k ∈ q.1, k < 10 ^ 12) ∧ q.1.length ≤ 60 := fun q hq => by
    have h1 := pre_plen hq
    have h2 := pre_small hq
    rw [List.length_nil] at h1
    exact ⟨fun k hk => by have := h2 k hk; omega, by omega⟩
  walk_at "ds"
  refine ⟨⟨by decide, by decide, by decide⟩, ?_⟩
  walk_at "ds"
  intro f hf
  walk_at "ds"
  refine dForGo_of (I := fun rest ρ G' => ∃ rs x2 L, rest = rs.map (fun q : Pth × Wk => pthD q.1) ∧ (∀ q ∈ rs, q ∈ preW [] w) ∧ ρ = [some (.lst ((preW [] w).map fun q => pthD q.1)), some (.ref f), x2, none, none] ∧ G' f = some (.lst L) ∧ (∀ y ∈ L, StOk w y) ∧ L.length + 4 * rs.length ≤ 1614 ∧ Grow G G') ?_ ?_ _ _ _
    ⟨preW [] w, _, iniS, rfl, fun q h => h, rfl, updG_same, ini_ok hc, by simp only [iniS, List.length_cons, List.length_nil]; omega, Grow.upd hf⟩
  · rintro ρ G1 ⟨rs, x2, L, e0, -, rfl, ef, hL, hLl, g1⟩
    refine ⟨trivial, ?_⟩
    cases rs with
    | cons => cases e0
    | nil =>
      rw [List.length_nil] at hLl
      walk_at "ds"
      refine lcF (preW [] w) (fun q => pthD q.1) (fun q => .str (shD (pthD q.1))) ?_ (by omega) ?_ ?_
      · intro P hP
        walk_at "ds"
        exact hP _ _ (fun _ => trivial) (Grow.refl _)
      · intro q hq
        obtain ⟨h1, h2⟩ := hsm q hq
        refine ⟨_, rfl, fun G2 K hK => ?_⟩
        walk_at "ds"
        exact ⟨(pth_sh h1 (by omega)).a, hK _ (Grow.refl _)⟩
      intro G2 g2
      walk_at "ds"
      have ef2 := g2 _ _ ef
      refine lcFtR L id id (fun y => !inD (.str (shD y)) ((preW [] w).map fun q => .str (shD (pthD q.1)))) ?_ (by omega) ?_ ?_
      · intro P hP
        walk_at "ds"
        dsimp only
        rw [ef2]
        simpa using hP _ _ (fun G' g => g _ _ ef2) (Grow.refl _)
      · intro y hy
        rw [show (id y : D) = y from rfl]
        obtain ⟨h1, h2, h3⟩ := hL y hy
        have hv : ∀ G : GH, vw G y = y := fun G => vw_of h1.ok.1
        refine ⟨_, rfl, fun G3 K hK => ?_, fun _ G3 K hK => ?_⟩
        · walk_at "ds"
          refine ⟨by rw [hv]; exact h1, ?_⟩
          rw [hv]
          dsimp only
          walk_at "ds"
          refine ⟨rfl, ?_, hK _ (Grow.refl _)⟩
          rw [List.all_map]
          exact List.all_eq_true.mpr fun _ _ => rfl
        · walk_at "ds"
          exact hK _ (Grow.refl _)
      · intro G3 g3
        rw [List.map_id]
        refine hq _ _ ((g1.trans g2).trans g3) (Nat.le_trans (List.length_filter_le ..) (by omega)) fun y hy => ?_
        obtain ⟨hy, hn⟩ := List.mem_filter.mp hy
        obtain ⟨h1, h2, h3⟩ := hL y hy
        refine ⟨h2, ?_, h1.ok⟩
        rcases h3 with h3 | ⟨p, rfl⟩
        · exact h3
        · rw [wa_path]
          cases e : alongW w p with
          | none => rfl
          | some l =>
            exfalso
            obtain ⟨u, hu⟩ := ch_last e
            have : inD (.str (shD (pthD p))) ((preW [] w).map fun q => .str (shD (pthD q.1))) = true := by
              unfold inD
              rw [List.any_map, List.any_eq_true]
              exact ⟨_, hu, by simp [eqvD]⟩
            rw [this] at hn
            cases hn
  · rintro z rest ρ G1 ⟨rs, x2, L, e0, hm, rfl, ef, hL, hLl, g1⟩ K hK
    cases rs with
    | nil => cases e0
    | cons q rs =>
      injection e0 with e2 e3
      subst e2 e3
      obtain ⟨h1, h2⟩ := hsm q (hm q (List.mem_cons_self ..))
      have hp : (q.1.map ixD).length = q.1.length := List.length_map _
      rw [List.length_cons] at hLl
      refine ⟨trivial, ?_⟩
      rw [show (fun q : Pth × Wk => pthD q.1) q = D.tup (q.1.map ixD) from rfl]
      walk_at "ds"
      refine add_tt (by rw [hp]; simp only [List.length_cons, List.length_nil]; omega) ?_
      walk_at "ds"
      refine add_tt (by rw [hp]; simp only [List.length_cons, List.length_nil]; omega) ?_
      walk_at "ds"
      refine add_tt (by rw [hp]; simp only [List.length_cons, List.length_nil]; omega) ?_
      walk_at "ds"
      refine ext_i (m := fourS q.1) ef rfl (by simp only [fourS, List.length_cons, List.length_nil]; omega) ?_
      refine hK _ _ ⟨rs, _, _, rfl, fun r hr => hm r (List.mem_cons_of_mem _ hr), rfl, updG_same, ?_, ?_, Grow.upd2 hf g1⟩
      · intro y hy
        rcases List.mem_append.mp hy with h | h
        · exact hL y h
        · exact four_ok hc h1 (by omega) y h
      · rw [List.length_append]; simp only [fourS, List.length_cons, List.length_nil]; omega
end K03

namespace K03
open PySem L2 Dl 
local macro_rules | `(tactic| walk_at "ds") => `(tactic| repeat' with_reducible first
  | refine iVar (by with_unfolding_all rfl) ?_
  | refine iCons ?_
  | refine iNil ?_
  | refine iC ?_
  | refine iOp ?_
  | refine iSeq ?_
  | refine iAsg ?_
  | refine iGNm ?_
  | refine iTup ?_
  | refine iFrz ?_
  | refine iTst ?_
  | refine iIfS ?_
  | refine iRet ?_
  | refine iCall ?_
  | refine iLst ?_
  | refine iNext ?_
  | refine iXPa ?_
  | refine iXCall ?_
  | refine iNeg ?_
  | refine lstP_i (by assumption) ?_
  | refine lstP_i updG_same ?_
  | refine iDrop ?_
  | refine lenOk (by with_unfolding_all rfl) ?_
  | refine frzEnd ?_
  | refine iMt ?_
  | refine iFor ?_
  | refine iISq ?_
  | refine rIx_i (by with_unfolding_all rfl) (by with_unfolding_all rfl) ?_
  | refine rIx_i (by with_unfolding_all rfl) atI_0 ?_
  | refine add_llb (by with_unfolding_all rfl) ?_
  | refine ifNT ?_
  | fail "stuck")
abbrev qSR : Str := "_law_strays_right.<locals>.<lambda>"
theorem iStep {te tl ts : DTE} {ρ : DSt} {G : GH} {Q : DK} (h : te ρ G fun x G1 => tl ρ G1 fun y G2 => ∃ i, y = .int i ∧ ts ρ G2 fun z G3 => ∃ k, z = .int k ∧ k ≠ 0 ∧ ∃ ds, lsOf G3 x = some ds ∧ ∀ p, G3 p = none → Q (.ref p) (updG G3 p (.lst (pickL ds i k)))) : dStep te tl ts ρ G Q := h
theorem ok_use {w : Str} {k : Int} (h : PyData.strOk w = true) : okD (.tup [.str "use", .str w, .int k]) := ⟨by simp only [pureD, pureDs, h, Bool.and_true]; decide +kernel, by simp [depD, depDs]⟩
theorem eqv_use {w : Str} {k : Int} : eqvD (.tup [.str "use", .str w, .int k]) (.tup [.str "use", .str w, .int k]) = true := by simp [eqvD, eqvDs]
theorem hearL_use {Tb : Addr} {q : Str} {t : XTE} {w : Str} {k : Int} {ρ : DSt} {G : GH} {Q : DK} (hT : G Tb = some (.tab q)) (h : ∀ (E' : DXK) (Q' : DK), (∀ G', Grow G G' → E' (nuA w k) G') → t (fun x _ G2 => E' x G2) ρ G Q') (hq : ∀ G', Grow G G' → Q (.tup [.str "use", .str w, .int k]) G') :
    dHearL Tb q r_law_heard 4 t ρ G Q := ⟨hT, fun φ n1 H1 => heard_use (α := ⟨q, φ, n1, H1, fun E' G' Q' => t (fun x _ G2 => E' x G2) ρ G' Q'⟩) h hq⟩
theorem ask1_use {q : Str} {φ : Phi} {t : XTE} {Ls : List LamI} {w : Str} {n0 : Addr → Prop} {H0 : Hp} {ρ : DSt} {G : GH} {Q : DK} (hl : (⟨q, φ, t⟩ : LamI) ∈ Ls) (h : ∀ (E' : DXK) (Q' : DK), (∀ G', Grow G G' → E' (nu w) G') → t (fun x _ G2 => E' x G2) ρ G Q') (hq : ∀ G', Grow G G' → Q (.tup [.str "use", .str w, .int (-1)]) G') :
    dAsk1 r_law_heard 4 Ls ρ (.fn q φ n0 H0) G Q := ⟨_, hl, n0, H0, rfl, fun n1 H1 => heard_use (α := ⟨q, φ, n1, H1, fun E' G' Q' => t (fun x _ G2 => E' x G2) ρ G' Q'⟩) h hq⟩
end K03

namespace K03
open PySem L2 Dl 
local macro_rules | `(tactic| walk_at "ds") => `(tactic| repeat' with_reducible first
  | refine iVar (by with_unfolding_all rfl) ?_
  | refine iCons ?_
  | refine iNil ?_
  | refine iC ?_
  | refine iOp ?_
  | refine iSeq ?_
  | refine iAsg ?_
  | refine iGNm ?_
  | refine iTup ?_
  | refine iFrz ?_
  | refine iTst ?_
  | refine iIfS ?_
  | refine iRet ?_
  | refine iCall ?_
  | refine iLst ?_
  | refine iNext ?_
  | refine lenOk (by with_unfolding_all rfl) ?_
  | refine frzEnd ?_
  | refine iIf ?_
  | refine iCB ?_
  | refine rIx_i (by with_unfolding_all rfl) (by with_unfolding_all rfl) ?_
  | refine rIx_i (by with_unfolding_all rfl) atI_0 ?_
  | refine eq_ii ?_
  | refine add_ii ?_
  | refine int0 ?_
  | refine tupC_l ?_
  | refine iIRg1 ?_
  | refine add_ttb (by with_unfolding_all rfl) ?_
  | fail "stuck")
theorem pick_int (l : List Int) (P : Int → Prop) {r : Int} {G : GH} {Q : DK} (h0 : 0 ≤ r) (h1 : r < (l.length : Int)) (hl : ∀ x ∈ l, P x) (h : ∀ x, P x → Q (.int x) G) : rIx (.lst (l.map D.int)) (.int r) G Q := by
  obtain ⟨j, rfl⟩ : ∃ j : Nat, r = (j : Nat) := ⟨r.toNat, by omega⟩
  have hj : j < l.length := by omega
  refine rIx_i (d := .int l[j]) rfl (Dl.atI_nat (by rw [List.getElem?_map, List.getElem?_eq_getElem hj]; rfl)) ?_
  exact h _ (hl _ (List.getElem_mem hj))
def spBnd : DSp := fun ds G Q _ => ∃ a, ds = [.ref a] ∧ FeedOk G a ∧ ∀ (x y : Int) (t : Bool) G', 0 ≤ x → x ≤ y → y ≤ 12 → FeedOk G' a → KeepX a G G' → Q (.tup [.int x, .int y, .bl t]) G'
theorem law_bounds_rd : ∀ ds G Q E, spBnd ds G Q E → r_law_bounds spDraw { nx := fun _ G' => Q .non G', rt := Q } (startD 2 ds) G := by
  rintro ds G Q E ⟨a, rfl, hf, hq⟩
  unfold r_law_bounds
  walk_at "ds"
  refine ⟨a, 5, rfl, by decide, by decide, hf, fun r G1 r0 r1 f1 k1 => ?_⟩
  refine pick_int [0, 1, 1, 2, 5] (fun x => 0 ≤ x ∧ x ≤ 5) r0 r1 (by decide) fun x hx => ?_
  walk_at "ds"
  refine ⟨a, 4, rfl, by decide, by decide, f1, fun s G2 s0 s1 f2 k2 => ?_⟩
  refine pick_int [0, 1, 2, 7] (fun x => 0 ≤ x ∧ x ≤ 7) s0 s1 (by decide) fun y hy => ?_
  walk_at "ds"
  refine ⟨a, 2, rfl, by decide, by decide, f2, fun t G3 t0 t1 f3 k3 => ?_⟩
  walk_at "ds"
  exact hq x (x + y) (decide (t = 0)) _ hx.1 (by omega) (by omega) f3 ((k1.trans k2).trans k3)
def szF : Nat → Nat
  | 0 => 1
  | n + 1 => 1 + 3 * szF n
theorem szF_pos (n : Nat) : 1 ≤ szF n := by cases n <;> rw [szF] <;> omega
structure FwOk (m : Nat) (w : Wk) : Prop where
  ok : okW 999 w
  c : cW w ≤ szF m
  d : dW w ≤ m + 1
def spFW (n : Nat) : DSp := fun ds G Q _ => ∃ a m, ds = [.ref a, .int (m : Nat)] ∧ m < n ∧ m ≤ 3 ∧ FeedOk G a ∧ ∀ w G', FwOk m w → FeedOk G' a → KeepX a G G' → Q (toD w) G'
theorem fw_many {m : Nat} : ∀ {ws : List Wk}, (∀ w ∈ ws, FwOk m w) → okWs 999 ws ∧ cWs ws ≤ ws.length * szF m ∧ dWs ws ≤ m + 1
  | [], _ => ⟨trivial, by simp [cWs], by simp [dWs]⟩
  | w :: ws, h => by
    obtain ⟨h1, h2, h3⟩ := fw_many (ws := ws) fun v hv => h v (List.mem_cons_of_mem _ hv)
    have hw := h w (List.mem_cons_self ..)
    refine ⟨⟨hw.ok, h1⟩, ?_, ?_⟩
    · have := hw.c; rw [cWs, List.length_cons, Nat.succ_mul]; omega
    · have := hw.d; rw [dWs]; omega
theorem fw_lc {n m : Nat} {a : Addr} {sz : Int} {x2 x4 : Option D} {G : GH} {K : DK} (hm : m < n) (hm3 : m ≤ 3) (hf : FeedOk G a) (h0 : 0 ≤ sz) (h1 : sz ≤ 3)
    (hK : ∀ ws G', (∀ w ∈ ws, FwOk m w) → ws.length = sz.toNat → FeedOk G' a → KeepX a G G' → K (.lst (toDs ws)) G') :
    dLc (iRg1 (dCons (dVar 3) dNil)) (.one 5) dYes (dCall (spFW n) (dCons (dVar 0) (dCons (dOp rSub (dVar 1) (dC (.int 1))) dNil))) [5] [some (.ref a), some (.int ((m + 1 : Nat) : Int)), x2, some (.int sz), x4, none] G (frzK K) := by
  refine iLc ?_
  walk_at "ds"
  refine ⟨by omega, by omega, ?_⟩
  intro p hp
  have hpa : a ≠ p := hf.ne hp
  have hz : (2000 : Nat) ≤ sizeLine := by decide
  refine dLcGo_of (I := fun rest acc G' => ∃ ws, acc = toDs ws ∧ (∀ w ∈ ws, FwOk m w) ∧ ws.length + rest.length = sz.toNat ∧ FeedOk G' a ∧ KeepX a G G' ∧ G' p = some (.lst acc)) ?_ ?_ _ [] _ ?_
  · rintro acc G' ⟨ws, rfl, hw, hl, f, k, ep⟩
    refine ⟨trivial, frzR ep ?_⟩
    refine hK ws _ hw (by simpa using hl) ?_ ?_
    · obtain ⟨c, x, y, z, e⟩ := f; exact ⟨c, x, y, z, by rw [dropG_ne hpa]; exact e⟩
    · intro c o n1 e
      have hc : c ≠ p := by rintro rfl; rw [hp] at e; cases e
      rw [dropG_ne hc]; exact k c o n1 e
  · rintro x xs acc G' ⟨ws, rfl, hw, hl, f, k, ep⟩
    refine ⟨trivial, _, rfl, fun K2 hK2 => ?_⟩
    rw [List.length_cons] at hl
    walk_at "ds"
    refine ⟨a, m, by rw [show ((m + 1 : Nat) : Int) - 1 = (m : Nat) from by omega], hm, hm3, f, fun w G2 jw f2 k2 => ?_⟩
    refine hK2 _ G2 (k2 _ _ hpa.symm ep) (by rw [toDs_len]; omega) ⟨ws ++ [w], by rw [toDs_app, toDs, toDs], ?_, by rw [List.length_append, List.length_singleton]; omega, ?_, ?_, updG_same⟩
    · intro v hv
      rcases List.mem_append.mp hv with q | q
      · exact hw v q
      · rw [List.mem_singleton] at q; subst q; exact jw
    · obtain ⟨c, x, y, z, e⟩ := f2; exact ⟨c, x, y, z, by rw [updG_ne hpa]; exact e⟩
    · intro c o n1 e
      have hc : c ≠ p := by rintro rfl; rw [hp] at e; cases e
      rw [updG_ne hc]; exact k2 c o n1 (k c o n1 e)
  · refine ⟨[], by rw [toDs], (fun w hw => by cases hw), by simp [rngD], ?_, ?_, updG_same⟩
    · obtain ⟨c, x, y, z, e⟩ := hf; exact ⟨c, x, y, z, by rw [updG_ne hpa]; exact e⟩
    · intro c o n1 e
      have hc : c ≠ p := by rintro rfl; rw [hp] at e; cases e
      rw [updG_ne hc]; exact e
theorem law_free_work_rd {n : Nat} : ∀ ds G Q E, spFW (n + 1) ds G Q E → r_law_free_work (spFW n) spDraw spBnd { nx := fun _ G' => Q .non G', rt := Q } (startD 6 ds) G := by
  rintro ds G Q E ⟨a, m, rfl, hm, hm3, hf, hq⟩
  unfold r_law_free_work
  refine seqC (fun ρ G1 => ∃ r : Int, ρ = [some (.ref a), some (.int (m : Nat)), some (.int r), none, none, none] ∧ 0 ≤ r ∧ r < 9 ∧ (r < 4 ∨ 0 < m) ∧ FeedOk G1 a ∧ KeepX a G G1) ?_ ?_
  · intro K hK
    walk_at "ds"
    refine ifD (fun h => ?_) (fun h => ?_)
    · walk_at "ds"
      refine ⟨a, 9, rfl, by decide, by decide, hf, fun r G1 r0 r1 f1 k1 => ?_⟩
      walk_at "ds"
      exact hK _ _ ⟨r, rfl, r0, r1, .inr (by omega), f1, k1⟩
    · walk_at "ds"
      refine ⟨a, 4, rfl, by decide, by decide, hf, fun r G1 r0 r1 f1 k1 => ?_⟩
      walk_at "ds"
      exact hK _ _ ⟨r, rfl, r0, by omega, .inl r1, f1, k1⟩
  rintro ρ G1 ⟨r, rfl, r0, r9, hr, f1, k1⟩
  have hs := szF_pos m
  walk_at "ds"
  refine ifD (fun h2 => ?_) (fun h2 => ?_)
  · walk_at "ds"
    refine ⟨a, 4, rfl, by decide, by decide, f1, fun s G2 s0 s1 f2 k2 => ?_⟩
    refine pick_int [0, 1, 2, 11] (fun x => 0 ≤ x ∧ x ≤ 11) s0 s1 (by decide) fun x hx => ?_
    walk_at "ds"
    exact hq (.tick (1 + x)) _ ⟨by rw [okW]; omega, by rw [cW]; omega, by rw [dW]; omega⟩ f2 (k1.trans k2)
  walk_at "ds"
  refine ifD (fun h4 => ?_) (fun h4 => ?_)
  · walk_at "ds"
    refine ⟨a, rfl, f1, fun x y t G2 hx hy hz f2 k2 => ?_⟩
    walk_at "ds"
    exact hq (.sme x y t) _ ⟨by rw [okW]; omega, by rw [cW]; omega, by rw [dW]; omega⟩ f2 (k1.trans k2)
  obtain ⟨m, rfl⟩ : ∃ m', m = m' + 1 := ⟨m - 1, by omega⟩
  have em : ((m + 1 : Nat) : Int) - 1 = (m : Nat) := by omega
  rw [szF] at hs
  walk_at "ds"
  refine ifD (fun h6 => ?_) (fun h6 => ?_)
  · walk_at "ds"
    refine ⟨a, rfl, f1, fun x y t G2 hx hy hz f2 k2 => ?_⟩
    walk_at "ds"
    refine ⟨a, m, by rw [em], by omega, by omega, f2, fun w G3 hw f3 k3 => ?_⟩
    walk_at "ds"
    exact hq (.lop x y t w) _ ⟨by rw [okW]; exact ⟨hx, hy, by omega, hw.ok⟩, by have := hw.c; rw [cW, szF]; omega, by have := hw.d; rw [dW]; omega⟩ f3 ((k1.trans k2).trans k3)
  walk_at "ds"
  refine ifD (fun h8 => ?_) (fun h8 => ?_)
  · walk_at "ds"
    refine ⟨a, m, by rw [em], by omega, by omega, f1, fun v G2 hv f2 k2 => ?_⟩
    walk_at "ds"
    refine ⟨a, m, by rw [em], by omega, by omega, f2, fun w G3 hw f3 k3 => ?_⟩
    walk_at "ds"
    exact hq (.bes v w) _ ⟨by rw [okW]; exact ⟨hv.ok, hw.ok⟩, by have := hw.c; have := hv.c; rw [cW, szF]; omega, by have := hw.d; have := hv.d; rw [dW]; omega⟩ f3 ((k1.trans k2).trans k3)
  refine iNext ?_
  dsimp only
  refine seqC (fun ρ G2 => ∃ sz : Int, ρ = [some (.ref a), some (.int ((m + 1 : Nat) : Int)), some (.int r), some (.int sz), none, none] ∧ 0 ≤ sz ∧ sz ≤ 3 ∧ (r = 6 ∨ r = 7 ∧ 1 ≤ sz) ∧ FeedOk G2 a ∧ KeepX a G G2) ?_ ?_
  · intro K hK
    walk_at "ds"
    refine ifD (fun h => ?_) (fun h => ?_)
    · walk_at "ds"
      refine ⟨a, 4, rfl, by decide, by decide, f1, fun s G2 s0 s1 f2 k2 => ?_⟩
      walk_at "ds"
      exact hK _ _ ⟨s, rfl, s0, by omega, .inl h, f2, k1.trans k2⟩
    · walk_at "ds"
      refine ⟨a, 3, rfl, by decide, by decide, f1, fun s G2 s0 s1 f2 k2 => ?_⟩
      walk_at "ds"
      exact hK _ _ ⟨1 + s, rfl, by omega, by omega, .inr ⟨by omega, by omega⟩, f2, k1.trans k2⟩
  rintro ρ G2 ⟨sz, rfl, z0, z3, hrr, f2, k2⟩
  walk_at "ds"
  refine fw_lc (by omega) (by omega) f2 z0 z3 fun ws G3 hws hl f3 k3 => ?_
  obtain ⟨o1, o2, o3⟩ := fw_many hws
  have hmul : ws.length * szF m ≤ 3 * szF m := Nat.mul_le_mul_right _ (by omega)
  walk_at "ds"
  rcases hrr with rfl | ⟨rfl, hsz⟩
  · refine rIx_i (d := .str "row") rfl (by with_unfolding_all rfl) ?_
    walk_at "ds"
    exact hq (.row ws) _ ⟨by rw [okW]; exact o1, by rw [cW, szF]; omega, by rw [dW]; omega⟩ f3 (k2.trans k3)
  · refine rIx_i (d := .str "either") rfl (by with_unfolding_all rfl) ?_
    walk_at "ds"
    exact hq (.eit ws) _ ⟨by rw [okW]; exact ⟨fun e => by subst e; simp only [List.length_nil] at hl; omega, o1⟩, by rw [cW, szF]; omega, by rw [dW]; omega⟩ f3 (k2.trans k3)
def spWo : DSp := fun ds G Q _ => ∃ a, ds = [.ref a, .int 2] ∧ FeedOk G a ∧ ∀ w G', Gw w 64 26 → FeedOk G' a → KeepX a G G' → Q (toD w) G'
theorem FwOk.gw {m : Nat} {w : Wk} (h : FwOk m w) {n d : Nat} (h1 : szF m ≤ n) (h2 : m + 1 ≤ d) : Gw w n d := ⟨h.ok, by have := h.c; omega, by have := h.d; omega⟩
theorem law_work_rd {n m : Nat} (hn : 4 ≤ n) (hm : 3 ≤ m) : ∀ ds G Q E, spWo ds G Q E → r_law_work (spFewL n) (spFW m) { nx := fun _ G' => Q .non G', rt := Q } (startD 3 ds) G := by
  rintro ds G Q E ⟨a, rfl, hf, hq⟩
  unfold r_law_work
  walk_at "ds"
  refine ⟨a, 2, rfl, by omega, by omega, hf, fun w G1 hw f1 k1 => ?_⟩
  have e2 : szF 2 = 13 := rfl
  have hc := hw.c
  have hd := hw.d
  walk_at "ds"
  refine ⟨w, rfl, hw.ok, by omega, by omega, fun i G2 g2 => ?_⟩
  walk_at "ds"
  refine ifD (fun h => ?_) (fun h => ?_)
  · walk_at "ds"
    exact hq w _ (hw.gw (by omega) (by omega)) (f1.grow g2) (k1.trans (KeepX.of g2))
  · walk_at "ds"
    refine hq (.row [.tick 1, w]) _ ⟨?_, ?_, ?_⟩ (f1.grow g2) (k1.trans (KeepX.of g2))
    · rw [okW, okWs, okWs, okW, okWs]; exact ⟨by decide, hw.ok, trivial⟩
    · rw [cW, cWs, cWs, cW, cWs]; omega
    · rw [dW, dWs, dWs, dW, dWs]; omega
def wFst : Wk := .row [.tick 2, .lop 1 3 false (.tick 2)]
def wSnd : Wk := .bes (.row [.tick 1, .row [], .sme 0 4 true]) (.eit [.lop 2 2 false (.sme 1 1 false), .tick 12, .eit [.lop 0 3 true (.bes (.tick 1) (.row [])), .tick 7, .sme 0 4 true]])
def RC (d : D) : List D → D → Prop := fun ds r => ds = [] ∧ r = d
theorem law_first_rd : ∀ ds G Q E, pSp (RC (toD wFst)) ds G Q E → r_law_first { nx := fun _ G' => Q .non G', rt := Q } (startD 0 ds) G := by
  rintro ds G Q E ⟨_, ⟨rfl, rfl⟩, hq⟩
  unfold r_law_first
  walk_at "ds"
  exact hq _ (Grow.refl _)
theorem law_second_rd : ∀ ds G Q E, pSp (RC (toD wSnd)) ds G Q E → r_law_second { nx := fun _ G' => Q .non G', rt := Q } (startD 3 ds) G := by
  rintro ds G Q E ⟨_, ⟨rfl, rfl⟩, hq⟩
  unfold r_law_second
  walk_at "ds"
  exact hq _ (Grow.refl _)
theorem gw_snd : Gw wSnd 64 26 := ⟨by simp [wSnd, okW, okWs], by decide, by decide⟩
theorem gw_fst : Gw wFst 64 26 := ⟨by simp [wFst, okW, okWs], by decide, by decide⟩
end K03

namespace K03
open PySem L2 Dl 
local macro_rules | `(tactic| walk_at "ds") => `(tactic| repeat' with_reducible first
  | refine iVar (by with_unfolding_all rfl) ?_
  | refine iCons ?_
  | refine iNil ?_
  | refine iC ?_
  | refine iOp ?_
  | refine iSeq ?_
  | refine iAsg ?_
  | refine iGNm ?_
  | refine iTup ?_
  | refine iFrz ?_
  | refine iTst ?_
  | refine iIfS ?_
  | refine iRet ?_
  | refine iCall ?_
  | refine iLst ?_
  | refine iNext ?_
  | refine lstP_i (by assumption) ?_
  | refine lstP_i updG_same ?_
  | refine iCallG ?_
  | refine iDrop ?_
  | refine lenOk (by with_unfolding_all rfl) ?_
  | refine frzEnd ?_
  | refine slT ?_
  | refine iTru ?_
  | refine truB ?_
  | refine iOr ?_
  | refine iNot ?_
  | refine iAndVK ?_
  | refine andVT ?_
  | refine andVDT (by decide) ?_
  | refine iIf ?_
  | refine ifF ?_
  | refine iCB ?_
  | refine iMt ?_
  | refine iSl ?_
  | refine iP ?_
  | refine iNoP ?_
  | refine iFor ?_
  | refine iISq ?_
  | refine rIx_i (by with_unfolding_all rfl) (by with_unfolding_all rfl) ?_
  | refine rIx_i (by with_unfolding_all rfl) atI_0 ?_
  | refine ne_strT ?_
  | refine eq_ii ?_
  | refine add_ii ?_
  | refine intC_i ?_
  | refine iIRg1 ?_
  | refine ifNT ?_
  | refine andVDT (by with_reducible_and_instances first | omega | (simp only [List.length_cons, List.length_nil]; omega)) ?_
  | fail "stuck")
theorem tab_keep {Tb a : Addr} {q : Str} {G G' : GH} (h : G Tb = some (.tab q)) (f : FeedOk G a) (k : KeepX a G G') : G' Tb = some (.tab q) := by
  refine k _ _ ?_ h
  rintro rfl
  obtain ⟨_, _, _, _, e⟩ := f
  rw [h] at e; cases e
end K03

namespace Dl
open PySem L2
theorem shown_mid {i : Int} (h : i.natAbs < 10 ^ 61) : (PyData.shown (.int i)).length ≤ 62 := by
  have e := int_text_length_le10 (k := 61) (by decide) h
  show (Str.ofString (toString i)).length ≤ 62
  rw [ofString_length]; exact e
mutual
/-- plain data with ints of few digits -/
def mdD : D → Bool
  | .non => true
  | .bl _ => true
  | .int i => decide (i.natAbs < 10 ^ 61)
  | .str x => PyData.strOk x
  | .tup ds => mdDs ds
  | .lst ds => mdDs ds
  | _ => false
def mdDs : List D → Bool
  | [] => true
  | d :: ds => mdD d && mdDs ds
end
mutual
def wdD : D → Nat
  | .str x => x.length
  | .int _ => 250
  | .tup ds => wdDs ds
  | .lst ds => wdDs ds
  | _ => 0
def wdDs : List D → Nat
  | [] => 0
  | d :: ds => wdD d + 1 + wdDs ds
end
mutual
theorem md_pure : ∀ d : D, mdD d = true → pureD d = true
  | .non, _ => by simp [pureD]
  | .bl _, _ => by simp [pureD]
  | .int _, _ => by simp [pureD]
  | .str x, h => by simpa [pureD, mdD] using h
  | .tup ds, h => by simpa [pureD] using mds_pure ds (by simpa [mdD] using h)
  | .lst ds, h => by simpa [pureD] using mds_pure ds (by simpa [mdD] using h)
  | .byt _, h => by simp [mdD] at h
  | .ref _, h => by simp [mdD] at h
  | .scr _, h => by simp [mdD] at h
  | .fn _ _ _ _, h => by simp [mdD] at h
  | .exh _ _ _ _ _, h => by simp [mdD] at h
theorem mds_pure : ∀ ds : List D, mdDs ds = true → pureDs ds = true
  | [], _ => by simp [pureDs]
  | d :: ds, h => by
    simp only [mdDs, Bool.and_eq_true] at h
    simp [pureDs, md_pure d h.1, mds_pure ds h.2]
end
theorem log_mid {i : Int} (h : i.natAbs < 10 ^ 61) : i.natAbs.log2 < 240 := by
  by_cases e : i.natAbs = 0
  · rw [e]; decide
  · exact (Nat.log2_lt e).mpr (Nat.lt_of_lt_of_le h (by decide))
mutual
theorem md_few : ∀ d : D, mdD d = true → fewD d = true
  | .non, _ => by simp [fewD]
  | .bl _, _ => by simp [fewD]
  | .int i, h => by
    simp only [mdD, decide_eq_true_eq] at h
    have := log_mid h
    simp only [fewD, decide_eq_true_eq]
    omega
  | .str x, h => by simp [fewD]
  | .tup ds, h => by simpa [fewD] using mds_few ds (by simpa [mdD] using h)
  | .lst ds, h => by simpa [fewD] using mds_few ds (by simpa [mdD] using h)
  | .byt _, h => by simp [mdD] at h
  | .ref _, h => by simp [mdD] at h
  | .scr _, h => by simp [mdD] at h
  | .fn _ _ _ _, h => by simp [mdD] at h
  | .exh _ _ _ _ _, h => by simp [mdD] at h
theorem mds_few : ∀ ds : List D, mdDs ds = true → fewDs ds = true
  | [], _ => by simp [fewDs]
  | d :: ds, h => by
    simp only [mdDs, Bool.and_eq_true] at h
    simp [fewDs, md_few d h.1, mds_few ds h.2]
end
mutual
theorem md_short : ∀ d : D, mdD d = true → (pyD d).intsShort 62 = true
  | .non, _ => by simp [pyD, PyData.intsShort]
  | .bl _, _ => by simp [pyD, PyData.intsShort]
  | .int i, h => by
    simp only [mdD, decide_eq_true_eq] at h
    simp only [pyD, PyData.intsShort, decide_eq_true_eq]
    exact shown_mid h
  | .str x, h => by simp [pyD, PyData.intsShort]
  | .tup ds, h => by simpa [pyD, PyData.intsShort] using mds_short ds (by simpa [mdD] using h)
  | .lst ds, h => by simpa [pyD, PyData.intsShort] using mds_short ds (by simpa [mdD] using h)
  | .byt _, h => by simp [mdD] at h
  | .ref _, h => by simp [mdD] at h
  | .scr _, h => by simp [mdD] at h
  | .fn _ _ _ _, h => by simp [mdD] at h
  | .exh _ _ _ _ _, h => by simp [mdD] at h
theorem mds_short : ∀ ds : List D, mdDs ds = true → PyData.intsShortAll 62 (pyDs ds) = true
  | [], _ => by simp [pyDs, PyData.intsShortAll]
  | d :: ds, h => by
    simp only [mdDs, Bool.and_eq_true] at h
    simp [pyDs, PyData.intsShortAll, md_short d h.1, mds_short ds h.2]
end
mutual
theorem md_weight : ∀ d : D, mdD d = true → (pyD d).weight ≤ wdD d
  | .non, _ => by simp [pyD, PyData.weight]
  | .bl _, _ => by simp [pyD, PyData.weight]
  | .int i, h => by
    simp only [mdD, decide_eq_true_eq] at h
    have := log_mid h
    simp only [pyD, PyData.weight, wdD]
    split <;> omega
  | .str x, h => by simp [pyD, PyData.weight, wdD, Str.length]
  | .tup ds, h => by simpa [pyD, PyData.weight, wdD] using mds_weight ds (by simpa [mdD] using h)
  | .lst ds, h => by simpa [pyD, PyData.weight, wdD] using mds_weight ds (by simpa [mdD] using h)
  | .byt _, h => by simp [mdD] at h
  | .ref _, h => by simp [mdD] at h
  | .scr _, h => by simp [mdD] at h
  | .fn _ _ _ _, h => by simp [mdD] at h
  | .exh _ _ _ _ _, h => by simp [mdD] at h
theorem mds_weight : ∀ ds : List D, mdDs ds = true → PyData.weightAll (pyDs ds) ≤ wdDs ds
  | [], _ => by simp [pyDs, PyData.weightAll]
  | d :: ds, h => by
    simp only [mdDs, Bool.and_eq_true] at h
    have h1 := md_weight d h.1
    have h2 := mds_weight ds h.2
    simp only [pyDs, PyData.weightAll, wdDs]
    omega
end
theorem okD_mid {d : D} (h : mdD d = true) (k : depD d ≤ 64) : okD d := ⟨md_pure d h, k⟩
theorem len_mid {d : D} (h : mdD d = true) (k : depD d ≤ 64) (z : wdD d ≤ 2 ^ 17) : (shD d).length ≤ sizeLine := by
  have e := md_weight d h
  have h3 : (pyD d).canLay0 = true := lay_py d (md_pure d h)
  have := PyData.shown_le 62 (by decide) (pyD d) (PyData.leavesShort_of_canLay0 62 _ h3 (md_short d h))
  unfold shD
  have e2 : sizeLine = 16777216 := by decide
  have e3 : (2 : Nat) ^ 17 = 131072 := by decide
  omega
theorem shw_mid {d : D} (hs : isSeqD d = true) (h : mdD d = true) (k : depD d ≤ 64) (z : wdD d ≤ 2 ^ 17) : Shw d := ⟨hs, okD_mid h k, md_few d h, len_mid h k z⟩
theorem mid12 {n : Int} (h : 0 ≤ n) (k : n ≤ 10 ^ 60) : decide (n.natAbs < 10 ^ 61) = true := by
  rw [decide_eq_true_eq]
  have e : (10 : Nat) ^ 61 = 10 * 10 ^ 60 := by decide
  have e2 : (10 : Int) ^ 60 = ((10 ^ 60 : Nat) : Int) := by decide
  have e3 : 1 ≤ 10 ^ 60 := by decide
  omega
mutual
theorem md_toD  : ∀ w : Wk, okW (10 ^ 60) w → mdD (toD w) = true
  | .tick n, h => by
    rw [okW] at h
    simp only [toD, mdD, mdDs, so_tick, mid12 (show 0 ≤ n by omega) h.2, Bool.and_true]
  | .sme a b t, h => by
    rw [okW] at h
    simp only [toD, mdD, mdDs, so_some, mid12 h.1 (show a ≤ 10 ^ 60 by omega), mid12 (show 0 ≤ b by omega) h.2.2, Bool.and_true]
  | .lop a b t w, h => by
    rw [okW] at h
    simp only [toD, mdD, mdDs, so_loop, mid12 h.1 (show a ≤ 10 ^ 60 by omega), mid12 (show 0 ≤ b by omega) h.2.2.1, md_toD w h.2.2.2, Bool.and_true]
  | .eit ws, h => by
    rw [okW] at h
    simp only [toD, mdD, mdDs, so_either, md_toDs ws h.2, Bool.and_true]
  | .row ws, h => by
    rw [okW] at h
    simp only [toD, mdD, mdDs, so_row, md_toDs ws h, Bool.and_true]
  | .bes a b, h => by
    rw [okW] at h
    simp only [toD, mdD, mdDs, so_beside, md_toD a h.1, md_toD b h.2, Bool.and_true]
theorem md_toDs  : ∀ ws : List Wk, okWs (10 ^ 60) ws → mdDs (toDs ws) = true
  | [], _ => by simp [toDs, mdDs]
  | w :: ws, h => by
    rw [okWs] at h
    simp only [toDs, mdDs, md_toD w h.1, md_toDs ws h.2, Bool.and_true]
end
end Dl

namespace K04
open PySem L2 Dl K03
local macro_rules | `(tactic| walk_at "ds") => `(tactic| repeat' with_reducible first
  | fail "stuck")
def decN : List Nat → Option Nat → List Nat
  | [], some v => [v]
  | [], none => []
  | c :: cs, st => if 48 ≤ c ∧ c ≤ 57 then decN cs (some ((st.getD 0) * 10 + (c - 48))) else match st with
    | some v => v :: decN cs none
    | none => decN cs none
theorem dec_digits : ∀ (ds : List Nat) (rest : List Nat) (v : Nat), (∀ c ∈ ds, 48 ≤ c ∧ c ≤ 57) → decN (ds ++ rest) (some v) = decN rest (some (ds.foldl (fun v c => v * 10 + (c - 48)) v))
  | [], rest, v, _ => rfl
  | c :: ds, rest, v, h => by
    rw [List.cons_append, decN, if_pos (h c (List.mem_cons_self ..)), dec_digits ds rest _ fun x hx => h x (List.mem_cons_of_mem _ hx)]
    rfl
theorem dec_digits0 (ds : List Nat) (rest : List Nat) (hne : ds ≠ []) (h : ∀ c ∈ ds, 48 ≤ c ∧ c ≤ 57) : decN (ds ++ rest) none = decN rest (some (ds.foldl (fun v c => v * 10 + (c - 48)) 0)) := by
  cases ds with
  | nil => exact (hne rfl).elim
  | cons c ds =>
    rw [List.cons_append, decN, if_pos (h c (List.mem_cons_self ..)), dec_digits ds rest _ fun x hx => h x (List.mem_cons_of_mem _ hx)]
    rfl
def txN (n : Nat) : Str := Str.ofString (toString ((n : Nat) : Int))
theorem tx_cps (n : Nat) : (txN n).cps.toList = (Nat.toDigits 10 n).map Char.toNat := PySem.W.KIN.signs_num n
theorem tx_dig (n : Nat) : ∀ c ∈ (txN n).cps.toList, 48 ≤ c ∧ c ≤ 57 := by
  intro c hc
  rw [tx_cps] at hc
  obtain ⟨ch, hch, e⟩ := List.mem_map.mp hc
  have r := PyProof.Rows.digit_range (Nat.isDigit_of_mem_toDigits (by decide) (by decide) hch)
  rw [← e]
  exact r
theorem tx_val (n : Nat) : (txN n).cps.toList.foldl (fun v c => v * 10 + (c - 48)) 0 = n := by rw [tx_cps]; exact PySem.W.KIN.val_back n
theorem tx_ne (n : Nat) : (txN n).cps.toList ≠ [] := by
  rw [tx_cps]
  intro h
  have := congrArg List.length h
  have h2 := Nat.length_toDigits_pos (b := 10) (n := n)
  simp at this
def Stops (rest : List Nat) : Prop := ∀ v, decN rest (some v) = v :: decN rest none
theorem dec_num (n : Nat) {rest : List Nat} (h : Stops rest) : decN ((txN n).cps.toList ++ rest) none = n :: decN rest none := by
  rw [dec_digits0 _ _ (tx_ne n) (tx_dig n), tx_val, h]
theorem sep_cps : (", " : Str).cps.toList = [44, 32] := by decide +kernel
theorem stops_sep (r : List Nat) : Stops (44 :: r) := fun v => by simp [decN]
theorem join_cps (x y : Str) (r : List Str) : (Str.join ", " (x :: y :: r)).cps.toList = x.cps.toList ++ ([44, 32] ++ (Str.join ", " (y :: r)).cps.toList) := by
  show (x ++ (", " : Str) ++ Str.join ", " (y :: r)).cps.toList = _
  rw [Str.cps_append, Str.cps_append, Array.toList_append, Array.toList_append, sep_cps, List.append_assoc]
theorem dec_join {rest : List Nat} (h : Stops rest) : ∀ p : Pth, decN ((Str.join ", " (p.map txN)).cps.toList ++ rest) none = p ++ decN rest none
  | [] => by
    have : (Str.join ", " (([] : Pth).map txN)).cps.toList = [] := by decide +kernel
    rw [this]; rfl
  | [k] => dec_num k h
  | k :: k2 :: r => by
    have ih := dec_join h (k2 :: r)
    rw [List.map_cons] at ih
    rw [List.map_cons, List.map_cons, join_cps, List.append_assoc, List.append_assoc, show ([44, 32] : List Nat) ++ ((Str.join ", " (txN k2 :: r.map txN)).cps.toList ++ rest) = 44 :: 32 :: ((Str.join ", " (txN k2 :: r.map txN)).cps.toList ++ rest) from rfl, dec_num k (stops_sep _)]
    have e : ∀ l, decN (44 :: 32 :: l) none = decN l none := fun l => by simp [decN]
    rw [e, ih]; rfl
theorem sh_pth (p : Pth) : shD (pthD p) = ("(" : Str) ++ Str.join ", " (p.map txN) ++ (if p.length == 1 then ",)" else ")" : String) := by
  have e : pyD (pthD p) = .tuple ((p.map fun k : Nat => (k : Int)).map .int) := by
    rw [pthD, pyD]
    congr 1
    induction p with
    | nil => simp [pyDs]
    | cons k p ih => simp [pyDs, pyD, ixD] at ih ⊢; exact ih
  rw [shD, e, PyData.shown_tuple, PyData.shownAll_ints, List.map_map, List.length_map, List.length_map]
  rfl
theorem dec_pth (p : Pth) : decN (shD (pthD p)).cps.toList none = p := by
  rw [sh_pth, Str.cps_append, Str.cps_append, Array.toList_append, Array.toList_append, show ("(" : Str).cps.toList = [40] from by decide +kernel, List.append_assoc]
  have e : ∀ l, decN ([40] ++ l) none = decN l none := fun l => by simp [decN]
  rw [e]
  have c1 : (Str.ofString ",)").cps.toList = [44, 41] := by decide +kernel
  have c2 : (Str.ofString ")").cps.toList = [41] := by decide +kernel
  cases h : p.length == 1 with
  | true =>
    rw [if_pos rfl, c1, dec_join (fun v => by simp [decN])]
    simp [decN]
  | false =>
    rw [if_neg (by decide), c2, dec_join (fun v => by simp [decN])]
    simp [decN]
theorem sh_inj {p q : Pth} (h : shD (pthD p) = shD (pthD q)) : p = q := by
  have := congrArg (fun s : Str => decN s.cps.toList none) h
  simp only [dec_pth] at this
  exact this
mutual
theorem wdW : ∀ w : Wk, wdD (toD w) + 1 ≤ 1000 * cW w
  | .tick n => by simp [toD, wdD, wdDs, cW, sl_tick]
  | .sme a b t => by simp [toD, wdD, wdDs, cW, sl_some]
  | .lop a b t w => by have h := wdW w; simp only [toD, wdD, wdDs, cW, sl_loop]; omega
  | .eit ws => by have h := wdWs ws; simp only [toD, wdD, wdDs, cW, sl_either]; omega
  | .row ws => by have h := wdWs ws; simp only [toD, wdD, wdDs, cW, sl_row]; omega
  | .bes a b => by have h1 := wdW a; have h2 := wdW b; simp only [toD, wdD, wdDs, cW, sl_beside]; omega
theorem wdWs : ∀ ws : List Wk, wdDs (toDs ws) ≤ 1000 * cWs ws
  | [] => by simp [toDs, wdDs]
  | w :: ws => by have h1 := wdW w; have h2 := wdWs ws; simp only [toDs, wdDs, cWs]; omega
end
structure Xw (w : Wk) (n d : Nat) : Prop where
  ok : okW (10 ^ 60) w
  c : cW w ≤ n
  d : dW w ≤ d
theorem p17 : (2 : Nat) ^ 17 = 131072 := by decide
theorem Xw.shw {w : Wk} {n d : Nat} (h : Xw w n d) (hn : n ≤ 120) (hd : d ≤ 30) : Shw (toD w) := by
  refine shw_mid (seq_toD w) (md_toD w h.ok) ?_ ?_
  · rw [dep_toD]; have := dpW2 w; have := h.d; omega
  · have := wdW w; have := h.c; rw [p17]; omega
mutual
theorem okW_up {A B : Int} (h : A ≤ B) : ∀ w : Wk, okW A w → okW B w
  | .tick n, k => by rw [okW] at k ⊢; omega
  | .sme a b t, k => by rw [okW] at k ⊢; omega
  | .lop a b t w, k => by rw [okW] at k ⊢; exact ⟨k.1, k.2.1, by omega, okW_up h w k.2.2.2⟩
  | .eit ws, k => by rw [okW] at k ⊢; exact ⟨k.1, okWs_up h ws k.2⟩
  | .row ws, k => by rw [okW] at k ⊢; exact okWs_up h ws k
  | .bes a b, k => by rw [okW] at k ⊢; exact ⟨okW_up h a k.1, okW_up h b k.2⟩
theorem okWs_up {A B : Int} (h : A ≤ B) : ∀ ws : List Wk, okWs A ws → okWs B ws
  | [], _ => trivial
  | w :: ws, k => by rw [okWs] at k ⊢; exact ⟨okW_up h w k.1, okWs_up h ws k.2⟩
end
theorem Gw.x {w : Wk} {n d : Nat} (h : Gw w n d) : Xw w n d := ⟨okW_up (by decide) w h.ok, h.c, h.d⟩
end K04

namespace K04
open PySem L2 Dl K03
local macro_rules | `(tactic| walk_at "ds") => `(tactic| repeat' with_reducible first
  | refine iVar (by with_unfolding_all rfl) ?_
  | refine iCons ?_
  | refine iNil ?_
  | refine iC ?_
  | refine iOp ?_
  | refine iAsg ?_
  | refine iGNm ?_
  | refine iTup ?_
  | refine iFrz ?_
  | refine iTst ?_
  | refine iRet ?_
  | refine iCall ?_
  | refine iXPe ?_
  | refine iXPa ?_
  | refine iXPs ?_
  | refine iXSeq ?_
  | refine iXDrop ?_
  | refine iXRet ?_
  | refine iXAsg ?_
  | refine iXOp ?_
  | refine iXCall ?_
  | refine iNeg ?_
  | refine lenOk (by with_unfolding_all rfl) ?_
  | refine frzEnd ?_
  | refine slT ?_
  | refine iAndVK ?_
  | refine andVT ?_
  | refine andVF ?_
  | refine iCB ?_
  | refine iSl ?_
  | refine iP ?_
  | refine iNoP ?_
  | refine iStar ?_
  | refine iISq ?_
  | refine rIx_i (by with_unfolding_all rfl) (by with_unfolding_all rfl) ?_
  | refine rIx_i (by with_unfolding_all rfl) atI_0 ?_
  | refine int0 ?_
  | refine tupC_l ?_
  | fail "stuck")
def cntd : Wk → Bool
  | .sme _ _ _ => true
  | .lop _ _ _ _ => true
  | _ => false
theorem ix0 {u : Wk} {G : GH} {Q : DK} (h : Q (.str (wordW u)) G) : rIx (toD u) (.int 0) G Q := by
  cases u <;> (rw [toD]; exact rIx_i (by with_unfolding_all rfl) atI_0 h)
theorem in_cnt (u : Wk) : inD (.str (wordW u)) [.str "some", .str "loop"] = cntd u := by
  cases u <;> (simp only [wordW, cntd]; decide +kernel)
theorem inn_cnt {f : Bool → Bool} {u : Wk} {G : GH} {Q : DK} (h : Q (.bl (f (cntd u))) G) : rInn f (.str (wordW u)) (.tup [.str "some", .str "loop"]) G Q := by
  show flatD (.str (wordW u)) = true ∧ [D.str "some", D.str "loop"].all flatD = true ∧ Q (.bl (f (inD (.str (wordW u)) [.str "some", .str "loop"]))) G
  rw [in_cnt]
  exact ⟨rfl, rfl, h⟩
def lpsW (w : Wk) : List (Pth × Wk) := (preW [] w).filter fun q => cntd q.2
def Rlo : List D → D → Prop := fun ds d => ∃ w, ds = [toD w] ∧ cW w ≤ 400 ∧ dW w ≤ 400 ∧ d = .tup ((lpsW w).map fun q => pthD q.1)
theorem loops_of_rd : ∀ ds G Q E, pSp Rlo ds G Q E → r_loops_of (pSp Rall) { nx := fun _ G' => Q .non G', rt := Q } (startD 3 ds) G := by
  rintro ds G Q E ⟨_, ⟨w, rfl, hc, hd, rfl⟩, hq⟩
  unfold r_loops_of
  have hz : (2000 : Nat) ≤ sizeLine := by decide
  have hlen : (preW [] w).length ≤ 400 := by rw [pre_len]; exact hc
  walk_at "ds"
  refine lcFt (preW [] w) prD (fun q => pthD q.1) (fun q => cntd q.2) ?_ (by omega) ?_ ?_
  · intro P hP
    walk_at "ds"
    refine ⟨_, ⟨w, rfl, hc, hd, rfl⟩, fun G1 g1 => ?_⟩
    dsimp only
    exact hP _ _ (fun _ => trivial) g1
  · intro q hq
    refine ⟨_, rfl, fun G1 K hK => ?_, fun _ G1 K hK => ?_⟩
    · walk_at "ds"
      refine ix0 ?_
      walk_at "ds"
      refine inn_cnt ?_
      exact hK _ (Grow.refl _)
    · walk_at "ds"
      exact hK _ (Grow.refl _)
  · intro G1 g1
    walk_at "ds"
    exact hq _ g1
def RCa : List D → Except DX D → Prop := fun ds o => ∃ w x, ds = [toD w, x] ∧ WaOk w x ∧
  ((∃ p L u, x = pthD p ∧ alongW w p = some (L ++ [u]) ∧ cntd u = true ∧ o = .ok (.lst (toDs (L ++ [u])))) ∨ (∃ p L u, x = pthD p ∧ alongW w p = some (L ++ [u]) ∧ cntd u = false ∧ o = .error (nu "loop")) ∨ (waL w x = none ∧ o = .error (nu "path")))
theorem counted_along_rd : ∀ ds G Q E, pSpX RCa ds G Q E → r_counted_along (pSpX RUx) (pSpX RWa) (fun x _ G' => E x G') { nx := fun _ G' => Q .non G', rt := Q } (startD 3 ds) G := by
  rintro ds G Q E ⟨o, ⟨w, x, rfl, hx, h⟩, hq⟩
  unfold r_counted_along
  walk_at "ds"
  refine ⟨_, ⟨w, x, rfl, hx, rfl⟩, fun G1 g1 => ?_⟩
  rcases h with ⟨p, L, u, rfl, hl, hu, rfl⟩ | ⟨p, L, u, rfl, hl, hu, rfl⟩ | ⟨e, rfl⟩
  · unfold waO
    rw [wa_path, hl]
    dsimp only
    walk_at "ds"
    refine rIx_i (ds := toDs (L ++ [u])) (d := toD u) rfl (by rw [toDs_app]; exact K03.atI_last _ _) ?_
    walk_at "ds"
    refine ix0 ?_
    walk_at "ds"
    refine inn_cnt ?_
    rw [hu]
    walk_at "ds"
    refine ⟨_, ⟨true, "loop", -1, rfl, rfl⟩, fun G2 g2 => ?_⟩
    dsimp only [ruO]
    walk_at "ds"
    exact hq _ (g1.trans g2)
  · unfold waO
    rw [wa_path, hl]
    dsimp only
    walk_at "ds"
    refine rIx_i (ds := toDs (L ++ [u])) (d := toD u) rfl (by rw [toDs_app]; exact K03.atI_last _ _) ?_
    walk_at "ds"
    refine ix0 ?_
    walk_at "ds"
    refine inn_cnt ?_
    rw [hu]
    walk_at "ds"
    refine ⟨_, ⟨false, "loop", -1, rfl, rfl⟩, fun G2 g2 => ?_⟩
    exact hq _ (g1.trans g2)
  · unfold waO
    rw [e]
    exact hq _ g1
def lowB : Wk → Int
  | .sme a _ _ => a
  | .lop a _ _ _ => a
  | _ => 0
def topB : Wk → Int
  | .sme _ b _ => b
  | .lop _ b _ _ => b
  | _ => 0
def tldW (t : Bool) : Wk → Wk
  | .sme a b _ => .sme a b t
  | .lop a b _ w => .lop a b t w
  | w => w
def bndW (a b : Int) : Wk → Wk
  | .sme _ _ t => .sme a b t
  | .lop _ _ t w => .lop a b t w
  | w => w
def RAx (f : Wk → Pth → Wk → D) : List D → Except DX D → Prop := fun ds o => ∃ w x, ds = [toD w, x] ∧ WaOk w x ∧
  ((∃ p L u, x = pthD p ∧ alongW w p = some (L ++ [u]) ∧ cntd u = true ∧ o = .ok (f w p u)) ∨ (∃ p L u, x = pthD p ∧ alongW w p = some (L ++ [u]) ∧ cntd u = false ∧ o = .error (nu "loop")) ∨ (waL w x = none ∧ o = .error (nu "path")))
theorem bounds_of_rd : ∀ ds G Q E, pSpX (RAx fun _ _ u => .tup [.int (lowB u), .int (topB u)]) ds G Q E → r_bounds_of (pSpX RCa) (fun x _ G' => E x G') { nx := fun _ G' => Q .non G', rt := Q } (startD 3 ds) G := by
  rintro ds G Q E ⟨o, ⟨w, x, rfl, hx, h⟩, hq⟩
  unfold r_bounds_of
  walk_at "ds"
  rcases h with ⟨p, L, u, rfl, hl, hu, rfl⟩ | ⟨p, L, u, rfl, hl, hu, rfl⟩ | ⟨e, rfl⟩
  · refine pSpX_ok ⟨w, _, rfl, hx, .inl ⟨p, L, u, rfl, hl, hu, rfl⟩⟩ fun G1 g1 => ?_
    walk_at "ds"
    refine rIx_i (ds := toDs (L ++ [u])) (d := toD u) rfl (by rw [toDs_app]; exact K03.atI_last _ _) ?_
    have hq' := hq _ g1
    cases u with
    | sme a b t => rw [toD]; walk_at "ds"; exact hq'
    | lop a b t v => rw [toD]; walk_at "ds"; exact hq'
    | _ => cases hu
  · exact pSpX_err ⟨w, _, rfl, hx, .inr (.inl ⟨p, L, u, rfl, hl, hu, rfl⟩)⟩ fun G1 g1 => hq _ g1
  · exact pSpX_err ⟨w, _, rfl, hx, .inr (.inr ⟨e, rfl⟩)⟩ fun G1 g1 => hq _ g1
def RTo : List D → Except DX D → Prop := fun ds o => ∃ w x t, ds = [toD w, x, .bl t] ∧ RAx (fun w p u => toD (putW (tldW t u) w p)) [toD w, x] o
theorem with_told_rd : ∀ ds G Q E, pSpX RTo ds G Q E → r_with_told (pSp Rpa) (pSpX RCa) (fun x _ G' => E x G') { nx := fun _ G' => Q .non G', rt := Q } (startD 5 ds) G := by
  rintro ds G Q E ⟨o, ⟨w0, x0, t, rfl, w, x, e0, hx, h⟩, hq⟩
  injection e0 with e1 e2
  injection e2 with e2 _
  subst e2
  unfold r_with_told
  rw [e1]
  walk_at "ds"
  rcases h with ⟨p, L, u, rfl, hl, hu, rfl⟩ | ⟨p, L, u, rfl, hl, hu, rfl⟩ | ⟨e, rfl⟩
  · refine pSpX_ok ⟨w, _, rfl, hx, .inl ⟨p, L, u, rfl, hl, hu, rfl⟩⟩ fun G1 g1 => ?_
    walk_at "ds"
    refine rIx_i (ds := toDs (L ++ [u])) (d := toD u) rfl (by rw [toDs_app]; exact K03.atI_last _ _) ?_
    have fin : ∀ (v : Wk) (ds : List D) (E' : DEnds), toD v = .tup ds → v = tldW t u → pSp Rpa [.lst (toDs L), pthD p, .tup ds] G1 Q noX := by
      intro v ds E' ev e
      rw [← ev]
      refine ⟨_, ⟨w, p, v, L ++ [u], by rw [List.dropLast_concat], hl, by have := hx.c; omega, rfl⟩, fun G2 g2 => ?_⟩
      rw [e]; exact hq _ (g1.trans g2)
    cases u with
    | sme a b s =>
      rw [toD]
      walk_at "ds"
      refine slL (frzEnd ?_)
      walk_at "ds"
      have c1 : cutD [D.str "some", .int a, .int b, .bl s] none (some 3) = [.str "some", .int a, .int b] := by
        rw [show (3 : Int) = ((3 : Nat) : Int) from rfl, cut_take]; rfl
      have c2 : cutD [D.str "some", .int a, .int b, .bl s] (some 4) none = [] := by
        rw [show (4 : Int) = ((4 : Nat) : Int) from rfl, cut_drop]; rfl
      have c3 : cutD (toDs (L ++ [Wk.sme a b s])) none (some (-1)) = toDs L := by
        rw [toDs_app, show toDs [Wk.sme a b s] = [toD (Wk.sme a b s)] from by simp [toDs], cut_last]
      rw [c1]
      refine ⟨?_, ?_⟩
      · rw [c2]; exact Nat.le_of_ble_eq_true rfl
      rw [c2, c3]
      exact fin (.sme a b t) _ { nx := fun _ _ => True, rt := Q } (by rw [toD]; rfl) rfl
    | lop a b s v =>
      rw [toD]
      walk_at "ds"
      refine slL (frzEnd ?_)
      walk_at "ds"
      have c1 : cutD [D.str "loop", .int a, .int b, .bl s, toD v] none (some 3) = [.str "loop", .int a, .int b] := by
        rw [show (3 : Int) = ((3 : Nat) : Int) from rfl, cut_take]; rfl
      have c2 : cutD [D.str "loop", .int a, .int b, .bl s, toD v] (some 4) none = [toD v] := by
        rw [show (4 : Int) = ((4 : Nat) : Int) from rfl, cut_drop]; rfl
      have c3 : cutD (toDs (L ++ [Wk.lop a b s v])) none (some (-1)) = toDs L := by
        rw [toDs_app, show toDs [Wk.lop a b s v] = [toD (Wk.lop a b s v)] from by simp [toDs], cut_last]
      rw [c1]
      refine ⟨?_, ?_⟩
      · rw [c2]; exact Nat.le_of_ble_eq_true rfl
      rw [c2, c3]
      exact fin (.lop a b t v) _ { nx := fun _ _ => True, rt := Q } (by rw [toD]; rfl) rfl
    | _ => cases hu
  · exact pSpX_err ⟨w, _, rfl, hx, .inr (.inl ⟨p, L, u, rfl, hl, hu, rfl⟩)⟩ fun G1 g1 => hq _ g1
  · exact pSpX_err ⟨w, _, rfl, hx, .inr (.inr ⟨e, rfl⟩)⟩ fun G1 g1 => hq _ g1
def fixT (t : Bool) : List D → Except DX D → Prop := RAx fun w p u => toD (putW (tldW t u) w p)
theorem told_first_rd : ∀ ds G Q E, pSpX (fixT true) ds G Q E → r_told_first (pSpX RTo) (fun x _ G' => E x G') { nx := fun _ G' => Q .non G', rt := Q } (startD 2 ds) G := by
  rintro ds G Q E ⟨o, ⟨w, x, rfl, hx, h⟩, hq⟩
  unfold r_told_first
  walk_at "ds"
  exact ⟨o, ⟨w, x, true, rfl, w, x, rfl, hx, h⟩, hq⟩
theorem told_last_rd : ∀ ds G Q E, pSpX (fixT false) ds G Q E → r_told_last (pSpX RTo) (fun x _ G' => E x G') { nx := fun _ G' => Q .non G', rt := Q } (startD 2 ds) G := by
  rintro ds G Q E ⟨o, ⟨w, x, rfl, hx, h⟩, hq⟩
  unfold r_told_last
  walk_at "ds"
  exact ⟨o, ⟨w, x, false, rfl, w, x, rfl, hx, h⟩, hq⟩
def RWb : List D → Except DX D → Prop := fun ds o => ∃ w x lo hi, ds = [toD w, x, lo, hi] ∧ WaOk w x ∧
  ((∃ p L u, x = pthD p ∧ alongW w p = some (L ++ [u]) ∧ cntd u = true ∧ ((∃ i j : Int, lo = .int i ∧ hi = .int j ∧ 0 ≤ i ∧ i ≤ j ∧ o = .ok (toD (putW (bndW i j u) w p))) ∨
      (Pln lo = true ∧ isNumB lo = false ∧ o = .error (nu "least")) ∨ (Pln hi = true ∧ ∃ i : Int, lo = .int i ∧ 0 ≤ i ∧ (isNumB hi = false ∨ ∃ j : Int, hi = .int j ∧ 0 ≤ j ∧ j < i) ∧ o = .error (nu "most")))) ∨
   (∃ p L u, x = pthD p ∧ alongW w p = some (L ++ [u]) ∧ cntd u = false ∧ o = .error (nu "loop")) ∨ (waL w x = none ∧ o = .error (nu "path")))
theorem with_bounds_rd : ∀ ds G Q E, pSpX RWb ds G Q E → r_with_bounds (pSp Rpa) (pSp (RIi isNumB)) (pSpX RUx) (pSpX RCa) (fun x _ G' => E x G') { nx := fun _ G' => Q .non G', rt := Q } (startD 6 ds) G := by
  rintro ds G Q E ⟨o, ⟨w, x, lo, hi, rfl, hx, h⟩, hq⟩
  unfold r_with_bounds
  walk_at "ds"
  rcases h with ⟨p, L, u, rfl, hl, hu, h⟩ | ⟨p, L, u, rfl, hl, hu, rfl⟩ | ⟨e, rfl⟩
  · refine pSpX_ok ⟨w, _, rfl, hx, .inl ⟨p, L, u, rfl, hl, hu, rfl⟩⟩ fun G1 g1 => ?_
    walk_at "ds"
    rcases h with ⟨i, j, rfl, rfl, h0, hij, rfl⟩ | ⟨hp, hn, rfl⟩ | ⟨hp, i, rfl, h0, hn, rfl⟩
    · refine ⟨_, ⟨.int i, rfl, rfl, rfl⟩, fun G2 g2 => ?_⟩
      rw [show isNumB (.int i) = true from decide_eq_true h0]
      walk_at "ds"
      refine ⟨_, ⟨true, "least", -1, rfl, rfl⟩, fun G3 g3 => ?_⟩
      dsimp only [ruO]
      walk_at "ds"
      refine ⟨_, ⟨.int j, rfl, rfl, rfl⟩, fun G4 g4 => ?_⟩
      rw [show isNumB (.int j) = true from decide_eq_true (by omega)]
      walk_at "ds"
      rw [decide_eq_true hij]
      refine ⟨_, ⟨true, "most", -1, rfl, rfl⟩, fun G5 g5 => ?_⟩
      dsimp only [ruO]
      walk_at "ds"
      refine rIx_i (ds := toDs (L ++ [u])) (d := toD u) rfl (by rw [toDs_app]; exact K03.atI_last _ _) ?_
      have g15 := (((g1.trans g2).trans g3).trans g4).trans g5
      have fin : ∀ (v : Wk) (ds : List D), toD v = .tup ds → v = bndW i j u → pSp Rpa [.lst (toDs L), pthD p, .tup ds] G5 Q noX := by
        intro v ds ev e
        rw [← ev]
        refine ⟨_, ⟨w, p, v, L ++ [u], by rw [List.dropLast_concat], hl, by have := hx.c; omega, rfl⟩, fun G2 g2 => ?_⟩
        rw [e]; exact hq _ (g15.trans g2)
      cases u with
      | sme a b s =>
        rw [toD]
        walk_at "ds"
        refine slL (frzEnd ?_)
        walk_at "ds"
        have c2 : cutD [D.str "some", .int a, .int b, .bl s] (some 3) none = [.bl s] := by
          rw [show (3 : Int) = ((3 : Nat) : Int) from rfl, cut_drop]; rfl
        have c3 : cutD (toDs (L ++ [Wk.sme a b s])) none (some (-1)) = toDs L := by
          rw [toDs_app, show toDs [Wk.sme a b s] = [toD (Wk.sme a b s)] from by simp [toDs], cut_last]
        rw [c2]
        refine ⟨Nat.le_of_ble_eq_true rfl, ?_⟩
        walk_at "ds"
        rw [c3]
        exact fin (.sme i j s) _ (by rw [toD]; rfl) rfl
      | lop a b s v =>
        rw [toD]
        walk_at "ds"
        refine slL (frzEnd ?_)
        walk_at "ds"
        have c2 : cutD [D.str "loop", .int a, .int b, .bl s, toD v] (some 3) none = [.bl s, toD v] := by
          rw [show (3 : Int) = ((3 : Nat) : Int) from rfl, cut_drop]; rfl
        have c3 : cutD (toDs (L ++ [Wk.lop a b s v])) none (some (-1)) = toDs L := by
          rw [toDs_app, show toDs [Wk.lop a b s v] = [toD (Wk.lop a b s v)] from by simp [toDs], cut_last]
        rw [c2]
        refine ⟨Nat.le_of_ble_eq_true rfl, ?_⟩
        walk_at "ds"
        rw [c3]
        exact fin (.lop i j s v) _ (by rw [toD]; rfl) rfl
      | _ => cases hu
    · refine ⟨_, ⟨lo, rfl, hp, rfl⟩, fun G2 g2 => ?_⟩
      rw [hn]
      walk_at "ds"
      refine ⟨_, ⟨false, "least", -1, rfl, rfl⟩, fun G3 g3 => ?_⟩
      exact hq _ ((g1.trans g2).trans g3)
    · refine ⟨_, ⟨.int i, rfl, rfl, rfl⟩, fun G2 g2 => ?_⟩
      rw [show isNumB (.int i) = true from decide_eq_true h0]
      walk_at "ds"
      refine ⟨_, ⟨true, "least", -1, rfl, rfl⟩, fun G3 g3 => ?_⟩
      dsimp only [ruO]
      walk_at "ds"
      refine ⟨_, ⟨hi, rfl, hp, rfl⟩, fun G4 g4 => ?_⟩
      have g14 := ((g1.trans g2).trans g3).trans g4
      rcases hn with hn | ⟨j, rfl, hj, hji⟩
      · rw [hn]
        walk_at "ds"
        refine ⟨_, ⟨false, "most", -1, rfl, rfl⟩, fun G5 g5 => ?_⟩
        exact hq _ (g14.trans g5)
      · rw [show isNumB (.int j) = true from decide_eq_true hj]
        walk_at "ds"
        rw [decide_eq_false (show ¬ i ≤ j by omega)]
        refine ⟨_, ⟨false, "most", -1, rfl, rfl⟩, fun G5 g5 => ?_⟩
        exact hq _ (g14.trans g5)
  · exact pSpX_err ⟨w, _, rfl, hx, .inr (.inl ⟨p, L, u, rfl, hl, hu, rfl⟩)⟩ fun G1 g1 => hq _ g1
  · exact pSpX_err ⟨w, _, rfl, hx, .inr (.inr ⟨e, rfl⟩)⟩ fun G1 g1 => hq _ g1
end K04

namespace K04
open PySem L2 Dl K03
local macro_rules | `(tactic| walk_at "ds") => `(tactic| repeat' with_reducible first
  | refine iVar (by with_unfolding_all rfl) ?_
  | refine iCons ?_
  | refine iNil ?_
  | refine iOp ?_
  | refine iFrz ?_
  | refine iRet ?_
  | refine iCall ?_
  | refine iAndVK ?_
  | refine andVT ?_
  | refine andVF ?_
  | refine iCB ?_
  | refine iIsi ?_
  | refine iISq ?_
  | refine isi_T (by with_unfolding_all rfl) (by decide +kernel) ?_
  | refine isi_F (by with_unfolding_all rfl) (by decide +kernel) ?_
  | fail "stuck")
def prtW : Wk → Pth → Option Wk
  | w, [] => some w
  | w, k :: p => match (innW w)[k]? with
    | some u => prtW u p
    | none => none
theorem prt_along : ∀ (p : Pth) (w : Wk), prtW w p = (alongW w p).bind (·.getLast?)
  | [], w => rfl
  | k :: p, w => by
    rw [prtW, alongW]
    cases e : (innW w)[k]? with
    | none => rfl
    | some u =>
      dsimp only
      rw [prt_along p u]
      cases e2 : alongW u p with
      | none => rfl
      | some l =>
        have := along_len p u l e2
        cases l with
        | nil => simp at this
        | cons a l => simp
theorem prt_some {w : Wk} {p : Pth} {u : Wk} (h : prtW w p = some u) : ∃ L, alongW w p = some (L ++ [u]) := by
  rw [prt_along] at h
  cases e : alongW w p with
  | none => rw [e] at h; cases h
  | some l =>
    rw [e] at h
    obtain ⟨L, v, rfl⟩ := along_snoc e
    simp at h
    subst h
    exact ⟨L, rfl⟩
theorem prt_of {w : Wk} {p : Pth} {L : List Wk} {u : Wk} (h : alongW w p = some (L ++ [u])) : prtW w p = some u := by rw [prt_along, h]; simp
def cntA (w : Wk) (p : Pth) : Bool := match prtW w p with
  | some u => cntd u
  | none => false
def telW (t : Bool) : Wk → Pth → Wk
  | w, [] => tldW t w
  | w, k :: p => match (innW w)[k]? with
    | some u => setW w k (telW t u p)
    | none => w
theorem tel_put (t : Bool) : ∀ (p : Pth) (w : Wk) (L : List Wk) (u : Wk), alongW w p = some (L ++ [u]) → putW (tldW t u) w p = telW t w p
  | [], w, L, u, h => by
    rw [alongW] at h
    cases L with
    | nil => simp at h; subst h; rw [putW, telW]
    | cons a L => simp at h
  | k :: p, w, L, u, h => by
    obtain ⟨v, l', hv, e', e, hne⟩ := along_cons h
    obtain ⟨L', x, rfl⟩ := along_snoc e'
    have : x = u := by
      have h2 : (L ++ [u]).getLast? = (w :: (L' ++ [x])).getLast? := congrArg List.getLast? e
      rw [← List.cons_append, List.getLast?_concat, List.getLast?_concat] at h2
      injection h2 with h2
      exact h2.symm
    subst this
    rw [putW, telW, hv]
    dsimp only
    rw [tel_put t p v L' x e']
theorem inn_tld (t : Bool) (w : Wk) : innW (tldW t w) = innW w := by cases w <;> rfl
theorem cnt_tld (t : Bool) (w : Wk) : cntd (tldW t w) = cntd w := by cases w <;> rfl
theorem inn_set {w u : Wk} {k : Nat} (x : Wk) (h : (innW w)[k]? = some u) : innW (setW w k x) = (innW w).set k x := by
  have hk := (List.getElem?_eq_some_iff.mp h).1
  cases w with
  | tick n => simp [innW] at hk
  | sme a b t => simp [innW] at hk
  | lop a b t v => simp [innW] at hk; subst hk; rfl
  | eit ws => rfl
  | row ws => rfl
  | bes a b =>
    simp [innW] at hk
    obtain rfl | rfl : k = 0 ∨ k = 1 := by omega
    · rfl
    · rfl
theorem cnt_set (w : Wk) (k : Nat) (x : Wk) : cntd (setW w k x) = cntd w := by
  cases w with
  | bes a b => cases k <;> rfl
  | _ => rfl
theorem cnt_tel (t : Bool) : ∀ (p : Pth) (w : Wk) (q : Pth), cntA (telW t w p) q = cntA w q
  | [], w, [] => by simp [telW, cntA, prtW, cnt_tld]
  | [], w, j :: r => by simp only [telW, cntA, prtW, inn_tld]
  | k :: p, w, q => by
    rw [telW]
    cases e : (innW w)[k]? with
    | none => rfl
    | some u =>
      dsimp only
      cases q with
      | nil => simp [cntA, prtW, cnt_set]
      | cons j r =>
        have ih := cnt_tel t p u r
        have hk := (List.getElem?_eq_some_iff.mp e).1
        simp only [cntA, prtW, inn_set _ e] at ih ⊢
        by_cases hj : k = j
        · subst hj
          rw [List.getElem?_set_self hk, e]
          exact ih
        · rw [List.getElem?_set_ne hj]
theorem tel_sz (t : Bool) : ∀ (p : Pth) (w : Wk), cW (telW t w p) = cW w ∧ dW (telW t w p) ≤ dW w ∧ (∀ B, okW B w → okW B (telW t w p))
  | [], w => by cases w <;> simp [telW, tldW, cW, dW, okW]
  | k :: p, w => by
    rw [telW]
    cases e : (innW w)[k]? with
    | none => exact ⟨rfl, Nat.le_refl _, fun _ h => h⟩
    | some u =>
      dsimp only
      obtain ⟨h1, h2, h3⟩ := tel_sz t p u
      have hu := List.mem_of_getElem? e
      refine ⟨?_, ?_, fun B h => setW_ok h e (h3 B (inn_ok h hu))⟩
      · have := setW_c (x := telW t u p) e; omega
      · have := setW_d w (telW t u p) k; have := inn_d hu; omega
def tellW (t : Bool) (w : Wk) (ps : List Pth) : Wk := ps.foldl (telW t) w
theorem lps_cnt {w : Wk} {q : Pth × Wk} (h : q ∈ lpsW w) : cntA w q.1 = true ∧ ∃ L, alongW w q.1 = some (L ++ [q.2]) := by
  obtain ⟨h1, h2⟩ := List.mem_filter.mp h
  obtain ⟨r, l, e1, e2, e3, e4⟩ := pre_along w [] q h1
  rw [List.nil_append] at e1
  subst e1
  obtain ⟨L, u, rfl⟩ := along_snoc e2
  have : u = q.2 := by simpa using e3
  subst this
  refine ⟨?_, L, e2⟩
  rw [cntA, prt_of e2]; exact h2
theorem cnt_lps {w : Wk} {p : Pth} (h : cntA w p = true) : ∃ u, (p, u) ∈ lpsW w := by
  unfold cntA at h
  cases e : prtW w p with
  | none => rw [e] at h; cases h
  | some u =>
    rw [e] at h
    obtain ⟨L, hL⟩ := prt_some e
    have := along_pre p w [] _ u hL (by simp)
    exact ⟨u, List.mem_filter.mpr ⟨by simpa using this, h⟩⟩
structure XOk (x : D) : Prop where
  pl : Pln x = true
  ok : okD x
  its : ∀ xs, x = .tup xs → (∀ y ∈ xs, Pln y = true) ∧ xs.length ≤ 1000
theorem xok_path (p : Pth) (h : p.length ≤ 1000) : XOk (pthD p) := ⟨rfl, ok_pth p, fun xs e => by
  injection e with e; subst e
  exact ⟨fun y hy => by obtain ⟨k, -, rfl⟩ := List.mem_map.mp hy; rfl, by simpa using h⟩⟩
theorem nums_path : ∀ {xs : List D}, (xs.map isNumB).all id = true → ∃ p : Pth, xs = p.map ixD
  | [], _ => ⟨[], rfl⟩
  | x :: xs, h => by
    simp only [List.map_cons, List.all_cons, id, Bool.and_eq_true] at h
    obtain ⟨p, rfl⟩ := nums_path (xs := xs) h.2
    cases x with
    | int i =>
      have h0 : 0 ≤ i := of_decide_eq_true h.1
      exact ⟨i.toNat :: p, by rw [List.map_cons, ixD]; congr 2; omega⟩
    | _ => simp [isNumB] at h
theorem path_nums (p : Pth) : ((p.map ixD).map isNumB).all id = true := by
  rw [List.map_map, List.all_map, List.all_eq_true]
  intro k _
  show (decide ((0 : Int) ≤ ((k : Nat) : Int))) = true
  exact decide_eq_true (Int.natCast_nonneg k)
theorem eqv_pth : ∀ (p q : Pth), eqvDs (p.map ixD) (q.map ixD) = decide (p = q)
  | [], [] => by simp [eqvDs]
  | [], _ :: _ => by simp [eqvDs]
  | _ :: _, [] => by simp [eqvDs]
  | k :: p, j :: q => by
    rw [List.map_cons, List.map_cons, eqvDs, eqv_pth p q, ixD, ixD, eqvD]
    by_cases h : k = j
    · subst h; simp
    · have : ((k : Nat) : Int) ≠ (j : Nat) := by omega
      rw [beq_eq_false_iff_ne.mpr this, Bool.false_and]; exact (decide_eq_false (fun e => h (List.cons.inj e).1)).symm
theorem eqv_pthD (p q : Pth) : eqvD (pthD p) (pthD q) = decide (p = q) := by rw [pthD, pthD, eqvD]; exact eqv_pth p q
theorem in_pths (L : List (Pth × Wk)) (p : Pth) : inD (pthD p) (L.map fun q => pthD q.1) = decide (∃ q ∈ L, q.1 = p) := by
  unfold inD
  rw [List.any_map]
  by_cases h : ∃ q ∈ L, q.1 = p
  · rw [decide_eq_true h, List.any_eq_true]
    obtain ⟨q, hq, e⟩ := h
    exact ⟨q, hq, by show eqvD (pthD q.1) (pthD p) = true; rw [eqv_pthD]; exact decide_eq_true e⟩
  · rw [decide_eq_false h, List.any_eq_false]
    intro q hq
    show ¬ eqvD (pthD q.1) (pthD p) = true
    rw [eqv_pthD]
    simp only [decide_eq_true_eq]
    exact fun e => h ⟨q, hq, e⟩
theorem ok_pths {L : List (Pth × Wk)} : okD (.lst (L.map fun q => pthD q.1)) := by
  constructor
  · rw [pureD]
    induction L with
    | nil => simp [pureDs]
    | cons x xs ih => simp only [List.map_cons, pureDs, Bool.and_eq_true]; exact ⟨(ok_pth x.1).1, ih⟩
  · have := depDs_le (ds := L.map fun q => pthD q.1) (n := 1) fun d hd => by obtain ⟨q, -, rfl⟩ := List.mem_map.mp hd; exact dep_pth _
    rw [depD]; omega
theorem ok_pathsT {L : List (Pth × Wk)} : okD (.tup (L.map fun q => pthD q.1)) := by
  have h : okD (.lst (L.map fun q => pthD q.1)) := ok_pths
  exact ⟨by have := h.1; simp only [pureD] at this ⊢; exact this, by have := h.2; simp only [depD] at this ⊢; exact this⟩
def isPo (w : Wk) (x : D) : Prop := ∃ p, x = pthD p ∧ cntA w p = true
def Rpo : List D → D → Prop := fun ds d => ∃ w x b, ds = [.tup ((lpsW w).map fun q => pthD q.1), x] ∧ XOk x ∧ (b = true ↔ isPo w x) ∧ d = .bl b
theorem is_path_of_rd : ∀ ds G Q E, pSp Rpo ds G Q E → r_is_path_of (pSp (RIi isNumB)) { nx := fun _ G' => Q .non G', rt := Q } (startD 3 ds) G := by
  rintro ds G Q E ⟨_, ⟨w, x, b, rfl, hx, hb, rfl⟩, hq⟩
  unfold r_is_path_of
  have hz : (2000 : Nat) ≤ sizeLine := by decide
  have no : ¬ isPo w x → ∀ G', Grow G G' → Q (.bl false) G' := fun h G' g => by
    have : b = false := by cases b with | false => rfl | true => exact (h (hb.mp rfl)).elim
    rw [← this]; exact hq _ g
  have nt : (∀ xs, x ≠ .tup xs) → ¬ isPo w x := fun h ⟨p, e, _⟩ => h _ e
  have hp := hx.pl
  cases x with
  | tup xs =>
    obtain ⟨hy, hl⟩ := hx.its xs rfl
    walk_at "ds"
    refine lcF xs id (fun y => .bl (isNumB y)) ?_ (by omega) ?_ ?_
    · intro P hP
      walk_at "ds"
      rw [show xs = xs.map id from (List.map_id _).symm]
      exact hP _ _ (fun _ => trivial) (Grow.refl _)
    · intro y hyy
      refine ⟨_, rfl, fun G1 K hK => ?_⟩
      rw [show (id y : D) = y from rfl]
      walk_at "ds"
      exact ⟨_, ⟨y, rfl, hy y hyy, rfl⟩, fun G2 g2 => hK _ g2⟩
    · intro G1 g1
      walk_at "ds"
      refine allC_i (bs := xs.map isNumB) ?_ ?_
      · clear hx hb no nt hy hl hp hq
        induction xs with
        | nil => rfl
        | cons y xs ih => simp only [List.map_cons, bolsD, ih]; rfl
      cases hn : (xs.map isNumB).all id with
      | false =>
        walk_at "ds"
        refine no (fun ⟨p, e, _⟩ => ?_) _ g1
        injection e with e
        subst e
        rw [path_nums] at hn
        cases hn
      | true =>
        obtain ⟨p, rfl⟩ := nums_path hn
        walk_at "ds"
        refine ⟨ok_pth p, ok_pathsT, ?_⟩
        rw [show inD (.tup (p.map ixD)) ((lpsW w).map fun q => pthD q.1) = b from ?_]
        · exact hq _ g1
        · rw [show D.tup (p.map ixD) = pthD p from rfl, in_pths]
          cases b with
          | true =>
            obtain ⟨p', e, hc⟩ := hb.mp rfl
            have : p' = p := by
              have h2 := eqv_pthD p' p
              rw [show pthD p' = pthD p from e.symm] at h2
              have h3 := eqv_pthD p p
              rw [h2] at h3
              simpa using h3
            subst this
            obtain ⟨u, hu⟩ := cnt_lps hc
            exact decide_eq_true ⟨_, hu, rfl⟩
          | false =>
            refine decide_eq_false fun ⟨q, hq2, e⟩ => ?_
            subst e
            have := hb.mpr ⟨q.1, rfl, (lps_cnt hq2).1⟩
            cases this
  | non => walk_at "ds"; exact no (nt fun _ h => nomatch h) _ (Grow.refl _)
  | bl c => walk_at "ds"; exact no (nt fun _ h => nomatch h) _ (Grow.refl _)
  | int c => walk_at "ds"; exact no (nt fun _ h => nomatch h) _ (Grow.refl _)
  | str c => walk_at "ds"; exact no (nt fun _ h => nomatch h) _ (Grow.refl _)
  | lst c => walk_at "ds"; exact no (nt fun _ h => nomatch h) _ (Grow.refl _)
  | _ => simp [Pln] at hp
end K04

namespace K04
open PySem L2 Dl K03
local macro_rules | `(tactic| walk_at "ds") => `(tactic| repeat' with_reducible first
  | refine iVar (by with_unfolding_all rfl) ?_
  | refine iCons ?_
  | refine iNil ?_
  | refine iC ?_
  | refine iAsg ?_
  | refine iGNm ?_
  | refine iRet ?_
  | refine iCall ?_
  | refine iXPa ?_
  | refine iXPs ?_
  | refine iXSeq ?_
  | refine iXDrop ?_
  | refine iXAsg ?_
  | refine iXCall ?_
  | refine iNeg ?_
  | refine iGTp (by with_unfolding_all rfl) ?_
  | refine iGsCons ?_
  | refine iGsNil ?_
  | refine iIsi ?_
  | refine iISq ?_
  | refine iIEnT ?_
  | refine isi_T (by with_unfolding_all rfl) (by decide +kernel) ?_
  | refine isi_F (by with_unfolding_all rfl) (by decide +kernel) ?_
  | fail "stuck")
theorem tell_snoc (t : Bool) (w : Wk) (ps : List Pth) (p : Pth) : tellW t w (ps ++ [p]) = telW t (tellW t w ps) p := by rw [tellW, List.foldl_append]; rfl
theorem tell_cnt (t : Bool) : ∀ (ps : List Pth) (w : Wk) (q : Pth), cntA (tellW t w ps) q = cntA w q
  | [], w, q => rfl
  | p :: ps, w, q => by rw [tellW, List.foldl_cons]; exact (tell_cnt t ps (telW t w p) q).trans (cnt_tel t p w q)
theorem tell_sz (t : Bool) : ∀ (ps : List Pth) (w : Wk), cW (tellW t w ps) = cW w ∧ dW (tellW t w ps) ≤ dW w ∧ (∀ B, okW B w → okW B (tellW t w ps))
  | [], w => ⟨rfl, Nat.le_refl _, fun _ h => h⟩
  | p :: ps, w => by
    obtain ⟨h1, h2, h3⟩ := tell_sz t ps (telW t w p)
    obtain ⟨k1, k2, k3⟩ := tel_sz t p w
    exact ⟨h1.trans k1, Nat.le_trans h2 k2, fun B h => h3 B (k3 B h)⟩
theorem cnt_len {w : Wk} {p : Pth} (h : cntA w p = true) : p.length + 1 ≤ dW w := by
  unfold cntA at h
  cases e : prtW w p with
  | none => rw [e] at h; cases h
  | some u =>
    obtain ⟨L, hL⟩ := prt_some e
    exact along_dep p w _ hL
def RTa : List D → Except DX D → Prop := fun ds o => ∃ w x, ds = [toD w, x] ∧ cW w ≤ 120 ∧ dW w ≤ 30 ∧
  ((∃ ps : List Pth, x = .tup (ps.map pthD) ∧ (∀ p ∈ ps, cntA w p = true) ∧ ps.length ≤ 1000 ∧ o = .ok (toD (tellW true w ps))) ∨
   (Pln x = true ∧ (∀ xs, x ≠ .tup xs) ∧ o = .error (nu "paths")) ∨
   (∃ (ps : List Pth) (y : D) (rest : List D), x = .tup (ps.map pthD ++ y :: rest) ∧ (∀ p ∈ ps, cntA w p = true) ∧ ps.length ≤ 1000 ∧ rest.length ≤ 1000 ∧ XOk y ∧ ¬ isPo w y ∧ o = .error (nuA "loop" (ps.length : Nat))))
theorem getD_left {ps : List Pth} {r : List D} {i : Nat} (h : i < ps.length) : (ps.map pthD ++ r).getD i .non = pthD ps[i] := by
  rw [List.getD_eq_getElem?_getD, List.getElem?_append_left (by simpa using h), List.getElem?_map, List.getElem?_eq_getElem h]; rfl
theorem getD_mid {ps : List Pth} {y : D} {r : List D} : (ps.map pthD ++ y :: r).getD ps.length .non = y := by
  rw [List.getD_eq_getElem?_getD, List.getElem?_append_right (by simp)]; simp
theorem told_at_rd : ∀ ds G Q E, pSpX RTa ds G Q E → r_told_at (pSp Rpo) (pSp Rlo) (pSpX RTo) (pSpX RUx) (fun x _ G' => E x G') { nx := fun _ G' => Q .non G', rt := Q } (startD 6 ds) G := by
  rintro ds G Q E ⟨o, ⟨w, x, rfl, hc, hd, h⟩, hq⟩
  unfold r_told_at
  have hz : (3000 : Nat) ≤ sizeLine := by decide
  rcases h with ⟨ps, rfl, hps, hl, rfl⟩ | ⟨hp, hn, rfl⟩ | ⟨ps, y, rest, rfl, hps, hl, hr, hy, hno, rfl⟩
  · walk_at "ds"
    refine ⟨_, ⟨true, "paths", -1, rfl, rfl⟩, fun G1 g1 => ?_⟩
    dsimp only [ruO]
    walk_at "ds"
    refine ⟨_, ⟨w, rfl, by omega, by omega, rfl⟩, fun G2 g2 => ?_⟩
    walk_at "ds"
    refine iXFor ?_
    walk_at "ds"
    dsimp only
    rw [enumD_map, List.length_map]
    refine forN ps.length _ (J := fun k ρ G' => ∃ x3 x4, ρ = [some (toD w), some (.tup (ps.map pthD)), some (.tup ((lpsW w).map fun q => pthD q.1)), x3, x4, none] ∧ Grow G G') ?_ ?_ _ _ ⟨_, _, rfl, g1.trans g2⟩
    · rintro ρ G3 ⟨x3, x4, rfl, g3⟩
      walk_at "ds"
      refine iXFor ?_
      walk_at "ds"
      refine dForGo_of (I := fun rest ρ G' => ∃ don rs x4, ps = don ++ rs ∧ rest = rs.map pthD ∧ ρ = [some (toD w), some (.tup (ps.map pthD)), some (.tup ((lpsW w).map fun q => pthD q.1)), x3, x4, some (toD (tellW true w don))] ∧ Grow G G') ?_ ?_ _ _ _
        ⟨[], ps, _, rfl, rfl, rfl, g3⟩
      · rintro ρ G4 ⟨don, rs, x4, e, e2, rfl, g4⟩
        refine ⟨trivial, ?_⟩
        cases rs with
        | cons => cases e2
        | nil =>
          rw [List.append_nil] at e
          subst e
          walk_at "ds"
          exact hq _ g4
      · rintro z rest ρ G4 ⟨don, rs, x4, e, e2, rfl, g4⟩ K hK
        cases rs with
        | nil => cases e2
        | cons p rs =>
          injection e2 with e2 e3
          subst e2 e3
          refine ⟨trivial, ?_⟩
          have hcp := hps p (by rw [e]; simp)
          have hlp := cnt_len hcp
          rw [← tell_cnt true don w p] at hcp
          obtain ⟨s1, s2, s3⟩ := tell_sz true don w
          unfold cntA at hcp
          cases e5 : prtW (tellW true w don) p with
          | none => rw [e5] at hcp; cases hcp
          | some u =>
            rw [e5] at hcp
            obtain ⟨L, hL⟩ := prt_some e5
            walk_at "ds"
            refine pSpX_ok ⟨_, _, true, rfl, _, _, rfl, waOk_path (by omega) (by omega), .inl ⟨p, L, u, rfl, hL, hcp, rfl⟩⟩ fun G5 g5 => ?_
            walk_at "ds"
            dsimp only
            rw [tel_put true p _ L u hL, ← tell_snoc]
            exact hK _ _ ⟨don ++ [p], rs, _, by rw [e]; simp, rfl, rfl, g4.trans g5⟩
    · rintro k hk ρ G3 ⟨x3, x4, rfl, g3⟩ K hK
      have e := getD_left (ps := ps) (r := []) hk
      rw [List.append_nil] at e
      have hcp := hps _ (List.getElem_mem hk)
      have hlp := cnt_len hcp
      rw [e]
      walk_at "ds"
      refine ⟨_, ⟨w, _, true, rfl, xok_path _ (by omega), ⟨fun _ => ⟨_, rfl, hcp⟩, fun _ => rfl⟩, rfl⟩, fun G4 g4 => ?_⟩
      walk_at "ds"
      refine ⟨_, ⟨true, "loop", _, rfl, rfl⟩, fun G5 g5 => ?_⟩
      dsimp only [ruO]
      exact hK _ _ ⟨_, _, rfl, (g3.trans g4).trans g5⟩
  · cases x with
    | tup xs => exact (hn xs rfl).elim
    | non => walk_at "ds"; exact ⟨_, ⟨false, "paths", -1, rfl, rfl⟩, fun G2 g2 => hq _ g2⟩
    | bl c => walk_at "ds"; exact ⟨_, ⟨false, "paths", -1, rfl, rfl⟩, fun G2 g2 => hq _ g2⟩
    | int c => walk_at "ds"; exact ⟨_, ⟨false, "paths", -1, rfl, rfl⟩, fun G2 g2 => hq _ g2⟩
    | str c => walk_at "ds"; exact ⟨_, ⟨false, "paths", -1, rfl, rfl⟩, fun G2 g2 => hq _ g2⟩
    | lst c => walk_at "ds"; exact ⟨_, ⟨false, "paths", -1, rfl, rfl⟩, fun G2 g2 => hq _ g2⟩
    | _ => simp [Pln] at hp
  · walk_at "ds"
    refine ⟨_, ⟨true, "paths", -1, rfl, rfl⟩, fun G1 g1 => ?_⟩
    dsimp only [ruO]
    walk_at "ds"
    refine ⟨_, ⟨w, rfl, by omega, by omega, rfl⟩, fun G2 g2 => ?_⟩
    walk_at "ds"
    refine iXFor ?_
    walk_at "ds"
    dsimp only
    rw [enumD_map]
    refine forN _ _ (J := fun k ρ G' => k ≤ ps.length ∧ ∃ x3 x4, ρ = [some (toD w), some (.tup (ps.map pthD ++ y :: rest)), some (.tup ((lpsW w).map fun q => pthD q.1)), x3, x4, none] ∧ Grow G G') ?_ ?_ _ _ ⟨Nat.zero_le _, _, _, rfl, g1.trans g2⟩
    · rintro ρ G3 ⟨hk, -⟩
      simp at hk
      omega
    · rintro k hk ρ G3 ⟨hkl, x3, x4, rfl, g3⟩ K hK
      by_cases hlt : k < ps.length
      · have e := getD_left (ps := ps) (r := y :: rest) hlt
        have hcp := hps _ (List.getElem_mem hlt)
        have hlp := cnt_len hcp
        rw [e]
        walk_at "ds"
        refine ⟨_, ⟨w, _, true, rfl, xok_path _ (by omega), ⟨fun _ => ⟨_, rfl, hcp⟩, fun _ => rfl⟩, rfl⟩, fun G4 g4 => ?_⟩
        walk_at "ds"
        refine ⟨_, ⟨true, "loop", _, rfl, rfl⟩, fun G5 g5 => ?_⟩
        dsimp only [ruO]
        exact hK _ _ ⟨by omega, _, _, rfl, (g3.trans g4).trans g5⟩
      · have : k = ps.length := by omega
        subst this
        rw [getD_mid]
        walk_at "ds"
        refine ⟨_, ⟨w, y, false, rfl, hy, ⟨fun h => (by cases h), fun h => (hno h).elim⟩, rfl⟩, fun G4 g4 => ?_⟩
        walk_at "ds"
        refine ⟨_, ⟨false, "loop", _, rfl, rfl⟩, fun G5 g5 => ?_⟩
        exact hq _ ((g3.trans g4).trans g5)
end K04

namespace K04
open PySem L2 Dl K03
local macro_rules | `(tactic| walk_at "ds") => `(tactic| repeat' with_reducible first
  | refine iVar (by with_unfolding_all rfl) ?_
  | refine iCons ?_
  | refine iNil ?_
  | refine iC ?_
  | refine iOp ?_
  | refine iSeq ?_
  | refine iAsg ?_
  | refine iGNm ?_
  | refine iTup ?_
  | refine iFrz ?_
  | refine iTst ?_
  | refine iRet ?_
  | refine iCall ?_
  | refine iDGet ?_
  | refine dctP_i (by assumption) ?_
  | refine dctP_i updG_same ?_
  | refine lenOk (by with_unfolding_all rfl) ?_
  | refine slT ?_
  | refine iCB ?_
  | refine iSl ?_
  | refine iP ?_
  | refine iNoP ?_
  | refine iISq ?_
  | refine keyP_s ?_
  | refine add_ttb (by with_unfolding_all rfl) ?_
  | fail "stuck")
theorem getK_app {k : Key} : ∀ {a b : List (Key × D)}, getK (a ++ b) k = (getK a k).or (getK b k)
  | [], b => by simp [getK]
  | p :: a, b => by
    rw [List.cons_append, getK, getK]
    by_cases h : p.1 = k
    · rw [if_pos h, if_pos h]; rfl
    · rw [if_neg h, if_neg h, getK_app]
theorem getK_map {k j : Key} {d : D} : ∀ {a : List (Key × D)}, getK (a.map fun kv => if kv.1 = k then (kv.1, d) else kv) j = if j = k then (getK a j).map fun _ => d else getK a j
  | [] => by by_cases h : j = k <;> simp [getK, h]
  | p :: a => by
    rw [List.map_cons, getK, getK_map (a := a)]
    by_cases h : p.1 = k
    · rw [if_pos h]
      by_cases hj : j = k
      · subst hj
        dsimp only
        rw [if_pos h, if_pos rfl, getK, if_pos h]; rfl
      · have : ¬ p.1 = j := fun e => hj (by rw [← e, h])
        dsimp only
        rw [if_neg this, if_neg hj, getK, if_neg this, if_neg hj]
    · rw [if_neg h]
      by_cases hj : p.1 = j
      · have : ¬ j = k := fun e => h (by rw [hj, e])
        rw [if_pos hj, if_neg this, getK, if_pos hj]
      · rw [if_neg hj, getK, if_neg hj]
theorem getK_none {k : Key} : ∀ {a : List (Key × D)}, (a.any fun kv => decide (kv.1 = k)) = false → getK a k = none
  | [], _ => rfl
  | p :: a, h => by
    simp only [List.any_cons, Bool.or_eq_false_iff, decide_eq_false_iff_not] at h
    rw [getK, if_neg h.1, getK_none h.2]
theorem getK_some {k : Key} : ∀ {a : List (Key × D)}, (a.any fun kv => decide (kv.1 = k)) = true → ∃ d, getK a k = some d
  | [], h => by simp at h
  | p :: a, h => by
    rw [getK]
    by_cases e : p.1 = k
    · rw [if_pos e]; exact ⟨_, rfl⟩
    · rw [if_neg e]
      simp only [List.any_cons, Bool.or_eq_true, decide_eq_true_eq] at h
      exact getK_some (h.resolve_left e)
theorem getK_putD {kvs : List (Key × D)} {k j : Key} {d : D} : getK (putD kvs k d) j = if j = k then some d else getK kvs j := by
  unfold putD
  cases h : (kvs.any fun kv => decide (kv.1 = k)) with
  | true =>
    rw [if_pos rfl, getK_map]
    by_cases hj : j = k
    · subst hj
      obtain ⟨e, he⟩ := getK_some h
      rw [if_pos rfl, if_pos rfl, he]; rfl
    · rw [if_neg hj, if_neg hj]
  | false =>
    rw [if_neg (by decide), getK_app]
    by_cases hj : j = k
    · subst hj
      rw [getK_none h, if_pos rfl]
      simp [getK]
    · rw [if_neg hj]
      have : getK [(k, d)] j = none := by rw [getK, if_neg (fun e => hj e.symm)]; rfl
      rw [this]
      cases getK kvs j <;> rfl
theorem getK_merge {k : Key} {d : D} : ∀ {kvs acc : List (Key × D)}, (∀ q ∈ kvs, q.1 = k → q.2 = d) → ((∃ q ∈ kvs, q.1 = k) ∨ getK acc k = some d) → getK (mergeD acc kvs) k = some d
  | [], acc, _, h => by
    rw [mergeD]
    exact h.resolve_left fun ⟨q, hq, _⟩ => nomatch hq
  | p :: kvs, acc, h, h2 => by
    rw [mergeD]
    refine getK_merge (fun q hq => h q (List.mem_cons_of_mem _ hq)) ?_
    rw [getK_putD]
    by_cases e : k = p.1
    · rw [if_pos e, h p (List.mem_cons_self ..) e.symm]; exact .inr rfl
    · rw [if_neg e]
      rcases h2 with ⟨q, hq, e2⟩ | h2
      · rcases List.mem_cons.mp hq with rfl | hq
        · exact (e e2.symm).elim
        · exact .inl ⟨q, hq, e2⟩
      · exact .inr h2
def Rll : List D → D → Prop := fun ds d => ∃ w, ds = [toD w] ∧ cW w ≤ 120 ∧ dW w ≤ 30 ∧ d = .lst ((lpsW w).map fun q => pthD q.1)
theorem law_loops_rd {n : Nat} (hn : 30 ≤ n) : ∀ ds G Q E, pSp Rll ds G Q E → r_law_loops (pSp (RallL n)) { nx := fun _ G' => Q .non G', rt := Q } (startD 3 ds) G := by
  rintro ds G Q E ⟨_, ⟨w, rfl, hc, hd, rfl⟩, hq⟩
  unfold r_law_loops
  have hz : (2000 : Nat) ≤ sizeLine := by decide
  have hlen : (preW [] w).length ≤ 400 := by rw [pre_len]; omega
  walk_at "ds"
  refine lcFt (preW [] w) prD (fun q => pthD q.1) (fun q => cntd q.2) ?_ (by omega) ?_ ?_
  · intro P hP
    walk_at "ds"
    refine ⟨_, ⟨w, [], rfl, by omega, by omega, by simp; omega, rfl⟩, fun G1 g1 => ?_⟩
    dsimp only
    exact hP _ _ (fun _ => trivial) g1
  · intro q hq
    refine ⟨_, rfl, fun G1 K hK => ?_, fun _ G1 K hK => ?_⟩
    · walk_at "ds"
      refine ix0 ?_
      walk_at "ds"
      refine inn_cnt ?_
      exact hK _ (Grow.refl _)
    · walk_at "ds"
      exact hK _ (Grow.refl _)
  · intro G1 g1
    exact hq _ g1
theorem keys_map {L : List (Pth × Wk)} : keysD (L.map fun q => ((.str (shD (pthD q.1)) : D), toD q.2)) = some (L.map fun q => ((.inr (shD (pthD q.1)) : Key), toD q.2)) := by
  induction L with
  | nil => rfl
  | cons q L ih => rw [List.map_cons, keysD, ih]; rfl
theorem path_small {w : Wk} {p : Pth} {L : List Wk} (h : alongW w p = some L) (hc : cW w ≤ 400) (hd : dW w ≤ 60) : Shw (pthD p) := by
  have e12 : (10 : Nat) ^ 12 = 1000000000000 := by decide
  have h1 := along_small p w L h
  have h2 := along_dep p w L h
  exact pth_sh (fun k hk => by have := h1 k hk; omega) (by omega)
theorem map_prs (L : List (Pth × Wk)) : (L.map fun q => D.tup [.str (shD (pthD q.1)), toD q.2]) = prsD (L.map fun q => ((.str (shD (pthD q.1)) : D), toD q.2)) := by rw [prsD, List.map_map]; rfl
theorem dictP_i {ps : List (D × D)} {kvs : List (Key × D)} {l : List D} {G : GH} {Q : DK} (e : l = prsD ps) (hk : keysD ps = some kvs) (h : ∀ p, G p = none → Q (.ref p) (updG G p (.dct (mergeD [] kvs)))) : rDictP [.lst l] G Q := ⟨ps, kvs, by rw [e]; rfl, hk, h⟩
def RLt : List D → D → Prop := fun ds d => ∃ w p t, ds = [toD w, pthD p, .bl t] ∧ cW w ≤ 120 ∧ dW w ≤ 28 ∧ cntA w p = true ∧ d = toD (telW t w p)
theorem law_told_rd {n : Nat} (hn : 30 ≤ n) : ∀ ds G Q E, pSp RLt ds G Q E → r_law_told (pSp (RlpL n)) (pSp (RallL n)) { nx := fun _ G' => Q .non G', rt := Q } (startD 6 ds) G := by
  rintro ds G Q E ⟨_, ⟨w, p, t, rfl, hc, hd, hcn, rfl⟩, hq⟩
  unfold r_law_told
  have hz : (2000 : Nat) ≤ sizeLine := by decide
  have hlen : (preW [] w).length ≤ 400 := by rw [pre_len]; omega
  have hlp := cnt_len hcn
  unfold cntA at hcn
  cases e5 : prtW w p with
  | none => rw [e5] at hcn; cases hcn
  | some u =>
    rw [e5] at hcn
    obtain ⟨L, hL⟩ := prt_some e5
    walk_at "ds"
    refine lcF (preW [] w) prD (fun q => .tup [.str (shD (pthD q.1)), toD q.2]) ?_ (by omega) ?_ ?_
    · intro P hP
      walk_at "ds"
      refine ⟨_, ⟨w, [], rfl, by omega, by omega, by simp; omega, rfl⟩, fun G1 g1 => ?_⟩
      dsimp only
      exact hP _ _ (fun _ => trivial) g1
    · intro q hq
      obtain ⟨r, l, e1, e2, e3, e4⟩ := pre_along w [] q hq
      rw [List.nil_append] at e1
      refine ⟨_, rfl, fun G1 K hK => ?_⟩
      walk_at "ds"
      refine repr_s (by rw [e1]; exact path_small e2 (by omega) (by omega)) ?_
      walk_at "ds"
      exact hK _ (Grow.refl _)
    intro G1 g1
    walk_at "ds"
    refine dictP_i (map_prs _) keys_map fun a ha => ?_
    walk_at "ds"
    refine repr_s (path_small hL (by omega) (by omega)) ?_
    have hget : getK (mergeD [] ((preW [] w).map fun q => ((.inr (shD (pthD q.1)) : Key), toD q.2))) (.inr (shD (pthD p))) = some (toD u) := getK_merge ?_ (.inl ?_)
    rotate_left
    · intro q hq e
      obtain ⟨r, hr, rfl⟩ := List.mem_map.mp hq
      have e : (Sum.inr (shD (pthD r.1)) : Key) = .inr (shD (pthD p)) := e
      have := sh_inj (Sum.inr.inj e)
      obtain ⟨r1, l, e1, e2, e3, e4⟩ := pre_along w [] r hr
      rw [List.nil_append] at e1
      rw [← e1, this] at e2
      rw [hL] at e2
      injection e2 with e2
      subst e2
      have e3 : u = r.2 := by simpa using e3
      rw [e3]
    · have := along_pre p w [] _ u hL (by simp)
      rw [List.nil_append] at this
      exact ⟨_, List.mem_map.mpr ⟨_, this, rfl⟩, rfl⟩
    refine dctP_i updG_same ?_
    refine keyP_s ?_
    refine getK_i hget ?_
    walk_at "ds"
    have fin : ∀ (G2 : GH) (v : Wk) (ds : List D), Grow G G2 → toD v = .tup ds → v = tldW t u → pSp (RlpL n) [toD w, pthD p, .tup ds] G2 Q noX := by
      intro G2 v ds g2 ev e
      rw [← ev]
      refine ⟨_, ⟨w, p, v, _, rfl, hL, by omega, by omega, rfl⟩, fun G3 g3 => ?_⟩
      rw [e, tel_put t p w L u hL]; exact hq _ (g2.trans g3)
    have gA : Grow G (updG G1 a (.dct (mergeD [] ((preW [] w).map fun q => ((.inr (shD (pthD q.1)) : Key), toD q.2))))) := Grow.upd2 (by cases e : G a with | none => rfl | some o => rw [g1 _ _ e] at ha; cases ha) g1
    generalize updG G1 a _ = G2 at gA ⊢
    cases u with
    | sme a b s =>
      rw [toD]
      walk_at "ds"
      have c1 : cutD [D.str "some", .int a, .int b, .bl s] none (some 3) = [.str "some", .int a, .int b] := by
        rw [show (3 : Int) = ((3 : Nat) : Int) from rfl, cut_take]; rfl
      have c2 : cutD [D.str "some", .int a, .int b, .bl s] (some 4) none = [] := by
        rw [show (4 : Int) = ((4 : Nat) : Int) from rfl, cut_drop]; rfl
      rw [c1]
      walk_at "ds"
      rw [c2]
      walk_at "ds"
      exact fin _ (.sme a b t) _ gA (by rw [toD]; rfl) rfl
    | lop a b s v =>
      rw [toD]
      walk_at "ds"
      have c1 : cutD [D.str "loop", .int a, .int b, .bl s, toD v] none (some 3) = [.str "loop", .int a, .int b] := by
        rw [show (3 : Int) = ((3 : Nat) : Int) from rfl, cut_take]; rfl
      have c2 : cutD [D.str "loop", .int a, .int b, .bl s, toD v] (some 4) none = [toD v] := by
        rw [show (4 : Int) = ((4 : Nat) : Int) from rfl, cut_drop]; rfl
      rw [c1]
      walk_at "ds"
      rw [c2]
      walk_at "ds"
      exact fin _ (.lop a b t v) _ gA (by rw [toD]; rfl) rfl
    | _ => cases hcn
end K04

namespace K04
open PySem L2 Dl K03
local macro_rules | `(tactic| walk_at "ds") => `(tactic| repeat' with_reducible first
  | fail "stuck")
theorem smD_path {w : Wk} (hw : Gw w 64 26) {q : Pth × Wk} (hq : q ∈ preW [] w) : smD (pthD q.1) = true ∧ wtD (pthD q.1) ≤ 1200 := by
  have e12 : (10 : Nat) ^ 12 = 1000000000000 := by decide
  have h1 := pre_small hq
  have h2 := pre_plen hq
  have hc := hw.c
  have hd := hw.d
  rw [List.length_nil] at h2
  have := wt_pth q.1
  exact ⟨sm_pth fun k hk => by have := h1 k hk; omega, by omega⟩
theorem paths_shw {w : Wk} (hw : Gw w 64 26) : Shw (.tup ((lpsW w).map fun q => pthD q.1)) := by
  have hm : ∀ q ∈ lpsW w, q ∈ preW [] w := fun q hq => (List.mem_filter.mp hq).1
  have hl : (lpsW w).length ≤ 64 := Nat.le_trans (List.length_filter_le ..) (by rw [pre_len]; exact hw.c)
  refine shw_of rfl ?_ ?_ ?_
  · simp only [smD]
    exact smDs_iff.mpr fun d hd => by obtain ⟨q, hq, rfl⟩ := List.mem_map.mp hd; exact (smD_path hw (hm q hq)).1
  · have := depDs_le (ds := (lpsW w).map fun q => pthD q.1) (n := 1) fun d hd => by obtain ⟨q, -, rfl⟩ := List.mem_map.mp hd; exact dep_pth _
    simp only [depD]; omega
  · have := wtDs_le (ds := (lpsW w).map fun q => pthD q.1) (n := 1200) fun d hd => by obtain ⟨q, hq, rfl⟩ := List.mem_map.mp hd; exact (smD_path hw (hm q hq)).2
    rw [List.length_map] at this
    have h2 : (lpsW w).length * (1200 + 1) ≤ 64 * 1201 := Nat.mul_le_mul hl (Nat.le_refl _)
    simp only [wtD]; rw [p20]; omega
structure AtP (w : Wk) (p : Pth) (u : Wk) : Prop where
  al : ∃ L, alongW w p = some (L ++ [u])
  cn : cntd u = true
  ca : cntA w p = true
theorem atP_of {w : Wk} {q : Pth × Wk} (h : q ∈ lpsW w) : AtP w q.1 q.2 := ⟨(lps_cnt h).2, (List.mem_filter.mp h).2, (lps_cnt h).1⟩
theorem AtP.one {w : Wk} {p : Pth} {u : Wk} (h : AtP w p u) {q : Pth × Wk} (hq : q ∈ preW [] w) (e : q.1 = p) : q.2 = u := by
  obtain ⟨L, hL⟩ := h.al
  obtain ⟨r1, l, e1, e2, e3, e4⟩ := pre_along w [] q hq
  rw [List.nil_append] at e1
  rw [← e1, e, hL] at e2
  injection e2 with e2
  subst e2
  simpa using e3.symm
theorem AtP.mem {w : Wk} {p : Pth} {u : Wk} (h : AtP w p u) : (p, u) ∈ preW [] w := by
  obtain ⟨L, hL⟩ := h.al
  have := along_pre p w [] _ u hL (by simp)
  simpa using this
theorem AtP.first {w : Wk} {p : Pth} {u : Wk} (h : AtP w p u) : ∃ r, ((preW [] w).filter fun q => decide (q.1 = p)).map (fun q => toD q.2) = toD u :: r := by
  have hm : (p, u) ∈ (preW [] w).filter fun q => decide (q.1 = p) := List.mem_filter.mpr ⟨h.mem, decide_eq_true rfl⟩
  cases e : (preW [] w).filter fun q => decide (q.1 = p) with
  | nil => rw [e] at hm; cases hm
  | cons q r =>
    have hq : q ∈ (preW [] w).filter fun q => decide (q.1 = p) := by rw [e]; exact List.mem_cons_self ..
    obtain ⟨h1, h2⟩ := List.mem_filter.mp hq
    exact ⟨r.map fun q => toD q.2, by rw [List.map_cons, h.one h1 (of_decide_eq_true h2)]⟩
def RBo : List D → D → Prop := fun ds d => ∃ w p u, ds = [toD w, pthD p] ∧ cW w ≤ 400 ∧ dW w ≤ 400 ∧ AtP w p u ∧ d = .tup [.int (lowB u), .int (topB u)]
def RTf (t : Bool) : List D → D → Prop := fun ds d => ∃ w p, ds = [toD w, pthD p] ∧ cW w ≤ 400 ∧ dW w ≤ 400 ∧ cntA w p = true ∧ d = toD (telW t w p)
def RBs : List D → D → Prop := fun ds d => ∃ (w : Wk) (p : Pth) (u : Wk) (i j : Int), ds = [toD w, pthD p, .int i, .int j] ∧ cW w ≤ 400 ∧ dW w ≤ 400 ∧ AtP w p u ∧ 0 ≤ i ∧ i ≤ j ∧ d = toD (putW (bndW i j u) w p)
def RTc : List D → D → Prop := fun ds d => ∃ (w : Wk) (ps : List Pth), ds = [toD w, .tup (ps.map pthD)] ∧ cW w ≤ 120 ∧ dW w ≤ 30 ∧ (∀ p ∈ ps, cntA w p = true) ∧ ps.length ≤ 1000 ∧ d = toD (tellW true w ps)
theorem AtP.wa {w : Wk} {p : Pth} {u : Wk} (h : AtP w p u) (hc : cW w ≤ 400) (hd : dW w ≤ 400) : WaOk w (pthD p) := waOk_path hc (by have := cnt_len h.ca; omega)
theorem bounds_of_calm : ∀ ds G Q E, pSp RBo ds G Q E → pSpX (RAx fun _ _ u => .tup [.int (lowB u), .int (topB u)]) ds G Q noX := by
  rintro ds G Q E ⟨d, ⟨w, p, u, rfl, hc, hd, h, rfl⟩, hq⟩
  obtain ⟨L, hL⟩ := h.al
  exact pSpX_ok ⟨w, pthD p, rfl, h.wa hc hd, .inl ⟨p, L, u, rfl, hL, h.cn, rfl⟩⟩ fun G1 g1 => hq G1 g1
theorem cnt_at {w : Wk} {p : Pth} (h : cntA w p = true) : ∃ u, AtP w p u := by
  have h0 := h
  unfold cntA at h
  cases e5 : prtW w p with
  | none => rw [e5] at h; cases h
  | some u =>
    rw [e5] at h
    exact ⟨u, prt_some e5, h, h0⟩
theorem told_calm (t : Bool) : ∀ ds G Q E, pSp (RTf t) ds G Q E → pSpX (fixT t) ds G Q noX := by
  rintro ds G Q E ⟨d, ⟨w, p, rfl, hc, hd, h, rfl⟩, hq⟩
  obtain ⟨u, h⟩ := cnt_at h
  obtain ⟨L, hL⟩ := h.al
  refine pSpX_ok (d := toD (putW (tldW t u) w p)) ⟨w, pthD p, rfl, h.wa hc hd, .inl ⟨p, L, u, rfl, hL, h.cn, rfl⟩⟩ fun G1 g1 => ?_
  rw [tel_put t p w L u hL]; exact hq G1 g1
theorem told_first_calm : ∀ ds G Q E, pSp (RTf true) ds G Q E → pSpX (fixT true) ds G Q noX := told_calm true
theorem told_last_calm : ∀ ds G Q E, pSp (RTf false) ds G Q E → pSpX (fixT false) ds G Q noX := told_calm false
theorem with_bounds_calm : ∀ ds G Q E, pSp RBs ds G Q E → pSpX RWb ds G Q noX := by
  rintro ds G Q E ⟨d, ⟨w, p, u, i, j, rfl, hc, hd, h, h0, hij, rfl⟩, hq⟩
  obtain ⟨L, hL⟩ := h.al
  exact pSpX_ok (d := toD (putW (bndW i j u) w p)) ⟨w, pthD p, .int i, .int j, rfl, h.wa hc hd, .inl ⟨p, L, u, rfl, hL, h.cn, .inl ⟨i, j, rfl, rfl, h0, hij, rfl⟩⟩⟩ fun G1 g1 => hq G1 g1
theorem told_at_calm : ∀ ds G Q E, pSp RTc ds G Q E → pSpX RTa ds G Q noX := by
  rintro ds G Q E ⟨d, ⟨w, ps, rfl, hc, hd, h, hl, rfl⟩, hq⟩
  exact pSpX_ok (d := toD (tellW true w ps)) ⟨w, _, rfl, hc, hd, .inl ⟨ps, rfl, h, hl, rfl⟩⟩ fun G1 g1 => hq G1 g1
theorem bnd_x {u : Wk} {n d : Nat} (h : Xw u n d) {i j : Int} (h0 : 0 ≤ i) (hij : i ≤ j) (hj : j ≤ 10 ^ 60) : Xw (bndW i j u) n d := by
  have h1 := h.ok
  have h2 := h.c
  have h3 := h.d
  cases u with
  | sme a b t => exact ⟨by rw [bndW, okW]; exact ⟨h0, hij, hj⟩, by simpa [bndW, cW] using h2, by simpa [bndW, dW] using h3⟩
  | lop a b t v => rw [okW] at h1; exact ⟨by rw [bndW, okW]; exact ⟨h0, hij, hj, h1.2.2.2⟩, by simpa [bndW, cW] using h2, by simpa [bndW, dW] using h3⟩
  | _ => exact ⟨h1, h2, h3⟩
theorem AtP.part {w : Wk} {p : Pth} {u : Wk} (h : AtP w p u) {n d : Nat} (hw : Gw w n d) : Gw u n d := hw.part h.mem
theorem tel_gw {t : Bool} {w : Wk} {p : Pth} {n d : Nat} (h : Gw w n d) : Gw (telW t w p) n d := by
  obtain ⟨h1, h2, h3⟩ := tel_sz t p w
  exact ⟨h3 _ h.ok, by have := h.c; omega, by have := h.d; omega⟩
theorem tell_gw {t : Bool} {w : Wk} {ps : List Pth} {n d : Nat} (h : Gw w n d) : Gw (tellW t w ps) n d := by
  obtain ⟨h1, h2, h3⟩ := tell_sz t ps w
  exact ⟨h3 _ h.ok, by have := h.c; omega, by have := h.d; omega⟩
theorem bounds_small {u : Wk} {n d : Nat} (h : Gw u n d) (hc : cntd u = true) : 0 ≤ lowB u ∧ lowB u ≤ topB u ∧ topB u ≤ 999 := by
  have h1 := h.ok
  cases u with
  | sme a b t => rw [okW] at h1; exact h1
  | lop a b t v => rw [okW] at h1; exact ⟨h1.1, h1.2.1, h1.2.2.1⟩
  | _ => cases hc
theorem three_shw {a b : Int} {v w : Wk} (ha : 0 ≤ a) (hab : a ≤ b) (hb : b ≤ 999) (hv : Gw v 64 26) (hw : Gw w 64 26) : Shw (.lst [.tup [.int a, .int b], toD v, toD w]) := by
  have e12 : (10 : Nat) ^ 12 = 1000000000000 := by decide
  have s1 := hv.sm
  have s2 := hw.sm
  have d1 := hv.dp
  have d2 := hw.dp
  have w1 := hv.wt
  have w2 := hw.wt
  refine shw_of rfl ?_ ?_ ?_
  · simp only [smD, smDs, s1, s2, Bool.and_true, Bool.and_eq_true, decide_eq_true_eq]; omega
  · simp only [depD, depDs]; omega
  · simp only [wtD, wtDs]; rw [p20]; omega
end K04

namespace K04
open PySem L2 Dl K03
local macro_rules | `(tactic| walk_at "ds") => `(tactic| repeat' with_reducible first
  | refine iVar (by with_unfolding_all rfl) ?_
  | refine iCons ?_
  | refine iNil ?_
  | refine iC ?_
  | refine iOp ?_
  | refine iSeq ?_
  | refine iAsg ?_
  | refine iGNm ?_
  | refine iTup ?_
  | refine iFrz ?_
  | refine iTst ?_
  | refine iIfS ?_
  | refine iRet ?_
  | refine iCall ?_
  | refine iLst ?_
  | refine iNext ?_
  | refine lstP_i (by assumption) ?_
  | refine lstP_i updG_same ?_
  | refine iDrop ?_
  | refine iPar ?_
  | refine iGTp (by with_unfolding_all rfl) ?_
  | refine iGsCons ?_
  | refine iGsNil ?_
  | refine lenOk (by with_unfolding_all rfl) ?_
  | refine frzEnd ?_
  | refine slT ?_
  | refine ifF ?_
  | refine iCB ?_
  | refine iMt ?_
  | refine iSl ?_
  | refine iP ?_
  | refine iNoP ?_
  | refine iFor ?_
  | refine iISq ?_
  | refine rIx_i (by with_unfolding_all rfl) (by with_unfolding_all rfl) ?_
  | refine rIx_i (by with_unfolding_all rfl) atI_0 ?_
  | refine ne_strT ?_
  | refine add_ii ?_
  | refine len_l ?_
  | refine tupC_l ?_
  | refine iIRg1 ?_
  | refine add_ttb (by with_unfolding_all rfl) ?_
  | refine ifNT ?_
  | refine ifNF ?_
  | fail "stuck")
def spR (n : Nat) : DSp := fun ds G Q _ => ∃ a w, ds = [.ref a, toD w] ∧ Gw w 64 26 ∧ FeedOk G a ∧ ∀ G', FeedOk G' a → KeepX a G G' → Q (.bl true) G'
theorem pick_at (L : List (Pth × Wk)) {r : Int} {G : GH} {Q : DK} (h0 : 0 ≤ r) (h1 : r < (L.length : Int)) (h : ∀ q ∈ L, Q (pthD q.1) G) : rIx (.lst (L.map fun q => pthD q.1)) (.int r) G Q := by
  obtain ⟨j, rfl⟩ : ∃ j : Nat, r = (j : Nat) := ⟨r.toNat, by omega⟩
  have hj : j < L.length := by omega
  refine rIx_i (d := pthD L[j].1) rfl (Dl.atI_nat (by rw [List.getElem?_map, List.getElem?_eq_getElem hj]; rfl)) ?_
  exact h _ (List.getElem_mem hj)
theorem keep_ref {a p : Addr} {o : DO} {G G' : GH} (h : FeedOk G a) (e : G p = some o) (hne : a ≠ p) (k : KeepX a G G') : G' p = some o := k p o (fun h => hne h.symm) e
theorem ix_low {u : Wk} (hu : cntd u = true) {G : GH} {Q : DK} (h : Q (.int (lowB u)) G) : rIx (toD u) (.int 1) G Q := by
  cases u with
  | sme a b t => rw [toD]; exact rIx_i (by with_unfolding_all rfl) atI_1 h
  | lop a b t v => rw [toD]; exact rIx_i (by with_unfolding_all rfl) atI_1 h
  | _ => cases hu
theorem ix_top {u : Wk} (hu : cntd u = true) {G : GH} {Q : DK} (h : Q (.int (topB u)) G) : rIx (toD u) (.int 2) G Q := by
  cases u with
  | sme a b t => rw [toD]; exact rIx_i (by with_unfolding_all rfl) atI_2 h
  | lop a b t v => rw [toD]; exact rIx_i (by with_unfolding_all rfl) atI_2 h
  | _ => cases hu
theorem sl_bounds {u : Wk} (hu : cntd u = true) {G : GH} {Q : DK} (h : Q (.tup [.int (lowB u), .int (topB u)]) G) : rSl (toD u) (some 1) (some 3) G Q := by
  have c : ∀ (x y z v : D) (r : List D), cutD (x :: y :: z :: v :: r) (some 1) (some 3) = [y, z] := fun x y z v r => by
    unfold cutD HT.sIx
    have e1 : min (Int.toNat 1) (x :: y :: z :: v :: r).length = 1 := by simp [List.length_cons]
    have e3 : min (Int.toNat 3) (x :: y :: z :: v :: r).length = 3 := by simp [List.length_cons]
    simp
  cases u with
  | sme a b t => rw [toD]; refine slT ?_; rw [c]; exact h
  | lop a b t v => rw [toD]; refine slT ?_; rw [c]; exact h
  | _ => cases hu
theorem bnd_data {u : Wk} (hu : cntd u = true) {i j : Int} {G : GH} {Q : DK} (h : Q (toD (bndW i j u)) G) : rSl (toD u) (some 3) none G fun d G1 => rAdd (.tup [.str (wordW u), .int i, .int j]) d G1 Q := by
  cases u with
  | sme a b t =>
    rw [toD]
    refine slT ?_
    have c2 : cutD [D.str "some", .int a, .int b, .bl t] (some 3) none = [.bl t] := by
      rw [show (3 : Int) = ((3 : Nat) : Int) from rfl, cut_drop]; rfl
    rw [c2]
    exact add_ttb (by with_unfolding_all rfl) h
  | lop a b t v =>
    rw [toD]
    refine slT ?_
    have c2 : cutD [D.str "loop", .int a, .int b, .bl t, toD v] (some 3) none = [.bl t, toD v] := by
      rw [show (3 : Int) = ((3 : Nat) : Int) from rfl, cut_drop]; rfl
    rw [c2]
    exact add_ttb (by with_unfolding_all rfl) h
  | _ => cases hu
theorem putW_same {B : Int} {x u : Wk} (hc : cW x = cW u) (hd : dW x ≤ dW u) (ho : okW B x) : ∀ (p : Pth) (w : Wk) (L : List Wk), alongW w p = some (L ++ [u]) → okW B w → cW (putW x w p) = cW w ∧ dW (putW x w p) ≤ dW w ∧ okW B (putW x w p)
  | [], w, L, h, _ => by
    rw [alongW] at h
    cases L with
    | nil => simp at h; subst h; rw [putW]; exact ⟨hc, hd, ho⟩
    | cons a L => simp at h
  | k :: p, w, L, h, hw => by
    obtain ⟨v, l', hv, e', e, hne⟩ := along_cons h
    obtain ⟨L', y, rfl⟩ := along_snoc e'
    have : y = u := by
      have h2 : (L ++ [u]).getLast? = (w :: (L' ++ [y])).getLast? := congrArg List.getLast? e
      rw [← List.cons_append, List.getLast?_concat, List.getLast?_concat] at h2
      injection h2 with h2
      exact h2.symm
    subst this
    have hu := List.mem_of_getElem? hv
    obtain ⟨i1, i2, i3⟩ := putW_same hc hd ho p v L' e' (inn_ok hw hu)
    have ep : putW x w (k :: p) = setW w k (putW x v p) := by rw [putW, hv]
    rw [ep]
    have s1 := setW_c (x := putW x v p) hv
    have s2 := setW_d w (putW x v p) k
    have s3 := inn_d hu
    exact ⟨by omega, by omega, setW_ok hw hv i3⟩
def loop1 : DTS := (dFor (iSq (dVar 2)) (gNm 3)
  (dSeq (dAsg (dOp rIx (dFrz (dLc (iSq (dCall (pSp (RallL 40)) (dCons (dVar 1) (dCons (dTup dNil) dNil)))) (.tup [5, 6]) (dTst (dOp rEqv (dVar 5) (dVar 3))) (dVar 6) [5, 6])) (dC (.int 0))) (gNm 4))
  (dSeq (dAsg (dFrz (dLst (dCons (dCall (pSp RBo) (dCons (dVar 1) (dCons (dVar 3) dNil))) (dCons (dCall (pSp (RTf true)) (dCons (dVar 1) (dCons (dVar 3) dNil))) (dCons (dCall (pSp (RTf false)) (dCons (dVar 1) (dCons (dVar 3) dNil))) dNil))))) (gNm 7))
  (dSeq (dIfS (dTst (dOp rNev (dCB rRepr (dCons (dVar 7) dNil)) (dCB rRepr (dCons (dFrz (dLst (dCons (dSl (dVar 4) (dP (dC (.int 1))) (dP (dC (.int 3)))) (dCons (dCall (pSp RLt) (dCons (dVar 1) (dCons (dVar 3) (dCons (dC (.bl true)) dNil)))) (dCons (dCall (pSp RLt) (dCons (dVar 1) (dCons (dVar 3) (dCons (dC (.bl false)) dNil)))) dNil))))) dNil))))
  (dRet (dC (.bl false)))
  dNext)
  (dFor (iSq (dTup (dCons (dTup (dCons (dC (.int 0)) (dCons (dC (.int 0)) dNil))) (dCons (dTup (dCons (dC (.int 0)) (dCons (dC (.int 9)) dNil))) (dCons (dTup (dCons (dC (.int 3)) (dCons (dC (.int 3)) dNil))) (dCons (dTup (dCons (dOp rIx (dVar 4) (dC (.int 1))) (dCons (dOp rAdd (dOp rIx (dVar 4) (dC (.int 2))) (dC (.int 1))) dNil))) (dCons (dTup (dCons (dOp rPow (dC (.int 10)) (dC (.int 59))) (dCons (dOp rPow (dC (.int 10)) (dC (.int 59))) dNil))) dNil))))))) (gTp 2 (gsCons (gNm 8) (gsCons (gNm 9) gsNil)))
  (dSeq (dAsg (dCall (pSp (RlpL 40)) (dCons (dVar 1) (dCons (dVar 3) (dCons (dOp rAdd (dTup (dCons (dOp rIx (dVar 4) (dC (.int 0))) (dCons (dVar 8) (dCons (dVar 9) dNil)))) (dSl (dVar 4) (dP (dC (.int 3))) dNoP)) dNil)))) (gNm 6))
  (dIfS (dTst (dOp rNev (dCB rRepr (dCons (dCall (pSp RBs) (dCons (dVar 1) (dCons (dVar 3) (dCons (dVar 8) (dCons (dVar 9) dNil))))) dNil)) (dCB rRepr (dCons (dVar 6) dNil))))
  (dRet (dC (.bl false)))
  dNext)))))))
theorem loop1_ok {w : Wk} {E : DEnds} {G : GH} {x0 x3 x4 x5 x6 x7 x8 x9 x10 x11 x12 : Option D} (hw : Gw w 64 26)
    (hE : ∀ (y3 y4 y5 y6 y7 y8 y9 : Option D) G', Grow G G' → E.nx [x0, some (toD w), some (.lst ((lpsW w).map fun q => pthD q.1)), y3, y4, y5, y6, y7, y8, y9, x10, x11, x12] G') :
    loop1 E [x0, some (toD w), some (.lst ((lpsW w).map fun q => pthD q.1)), x3, x4, x5, x6, x7, x8, x9, x10, x11, x12] G := by
  unfold loop1
  have hz : (2000 : Nat) ≤ sizeLine := by decide
  have hc := hw.c
  have hd := hw.d
  have hlen : (preW [] w).length ≤ 64 := by rw [pre_len]; exact hc
  walk_at "ds"
  refine dForGo_of (I := fun rest ρ G' => ∃ rs y3 y4 y5 y6 y7 y8 y9, rest = rs.map (fun q : Pth × Wk => pthD q.1) ∧ (∀ q ∈ rs, q ∈ lpsW w) ∧ ρ = [x0, some (toD w), some (.lst ((lpsW w).map fun q => pthD q.1)), y3, y4, y5, y6, y7, y8, y9, x10, x11, x12] ∧ Grow G G') ?_ ?_ _ _ _
    ⟨lpsW w, _, _, _, _, _, _, _, rfl, fun q h => h, rfl, Grow.refl _⟩
  · rintro ρ G1 ⟨rs, y3, y4, y5, y6, y7, y8, y9, -, -, rfl, g1⟩
    exact ⟨trivial, hE _ _ _ _ _ _ _ _ g1⟩
  · rintro z rest ρ G1 ⟨rs, y3, y4, y5, y6, y7, y8, y9, e0, hm, rfl, g1⟩ K hK
    cases rs with
    | nil => cases e0
    | cons q rs =>
      injection e0 with e2 e3
      subst e2 e3
      obtain ⟨p, u⟩ := q
      have hA : AtP w p u := atP_of (hm (p, u) (List.mem_cons_self ..))
      dsimp only
      obtain ⟨r, hr⟩ := hA.first
      obtain ⟨L, hL⟩ := hA.al
      have hu := hA.cn
      have gu := hA.part hw
      obtain ⟨b0, b1, b2⟩ := bounds_small gu hu
      have hpl := cnt_len hA.ca
      refine ⟨trivial, ?_⟩
      walk_at "ds"
      refine lcFt (preW [] w) prD (fun q => toD q.2) (fun q => decide (q.1 = p)) ?_ (by omega) ?_ ?_
      · intro P hP
        walk_at "ds"
        refine ⟨_, ⟨w, [], rfl, by omega, by omega, by simp; omega, rfl⟩, fun G2 g2 => ?_⟩
        dsimp only
        exact hP _ _ (fun _ => trivial) g2
      · intro q hq
        refine ⟨_, rfl, fun G2 K hK => ?_, fun _ G2 K hK => ?_⟩
        · walk_at "ds"
          refine eq_tt (ok_pth q.1) (ok_pth p) ?_
          rw [show eqvD (.tup (q.1.map ixD)) (.tup (p.map ixD)) = decide (q.1 = p) from eqv_pthD q.1 p]
          exact hK _ (Grow.refl _)
        · walk_at "ds"
          exact hK _ (Grow.refl _)
      intro G2 g2
      rw [hr]
      walk_at "ds"
      refine ⟨_, ⟨w, p, u, rfl, by omega, by omega, hA, rfl⟩, fun G3 g3 => ?_⟩
      walk_at "ds"
      refine ⟨_, ⟨w, p, rfl, by omega, by omega, hA.ca, rfl⟩, fun G4 g4 => ?_⟩
      walk_at "ds"
      refine ⟨_, ⟨w, p, rfl, by omega, by omega, hA.ca, rfl⟩, fun G5 g5 => ?_⟩
      have S3 := three_shw b0 b1 b2 (tel_gw (t := true) (p := p) hw) (tel_gw (t := false) (p := p) hw)
      walk_at "ds"
      refine repr_s S3 ?_
      walk_at "ds"
      refine sl_bounds hu ?_
      walk_at "ds"
      refine ⟨_, ⟨w, p, true, rfl, by omega, by omega, hA.ca, rfl⟩, fun G6 g6 => ?_⟩
      walk_at "ds"
      refine ⟨_, ⟨w, p, false, rfl, by omega, by omega, hA.ca, rfl⟩, fun G7 g7 => ?_⟩
      walk_at "ds"
      refine repr_s S3 ?_
      walk_at "ds"
      refine ix_low hu ?_
      walk_at "ds"
      refine ix_top hu ?_
      walk_at "ds"
      refine int2 ⟨by decide, by decide, by decide⟩ ?_
      walk_at "ds"
      refine int2 ⟨by decide, by decide, by decide⟩ ?_
      walk_at "ds"
      dsimp only
      have g17 := (((((g1.trans g2).trans g3).trans g4).trans g5).trans g6).trans g7
      refine dForGo_of (I := fun rest ρ G' => ∃ y6 y8 y9, (∀ y ∈ rest, ∃ i j : Int, y = .tup [.int i, .int j] ∧ 0 ≤ i ∧ i ≤ j ∧ j ≤ 10 ^ 60) ∧ ρ = [x0, some (toD w), some (.lst ((lpsW w).map fun q => pthD q.1)), some (pthD p), some (toD u), y5, y6, some (.lst [.tup [.int (lowB u), .int (topB u)], toD (telW true w p), toD (telW false w p)]), y8, y9, x10, x11, x12] ∧ Grow G G') ?_ ?_ _ _ _
        ⟨_, _, _, ?_, rfl, g17⟩
      · rintro ρ G8 ⟨y6, y8, y9, -, rfl, g8⟩
        exact ⟨trivial, hK _ _ ⟨rs, _, _, _, _, _, _, _, rfl, fun q hq => hm q (List.mem_cons_of_mem _ hq), rfl, g8⟩⟩
      · rintro y rest ρ G8 ⟨y6, y8, y9, hy, rfl, g8⟩ K2 hK2
        refine ⟨trivial, ?_⟩
        obtain ⟨i, j, rfl, h0, hij, hj⟩ := hy y (List.mem_cons_self ..)
        walk_at "ds"
        refine ix0 ?_
        walk_at "ds"
        refine bnd_data hu ?_
        walk_at "ds"
        refine ⟨_, ⟨w, p, bndW i j u, _, rfl, hL, by omega, by omega, rfl⟩, fun G9 g9 => ?_⟩
        walk_at "ds"
        refine ⟨_, ⟨w, p, u, i, j, rfl, by omega, by omega, hA, h0, hij, rfl⟩, fun G10 g10 => ?_⟩
        have SX : Shw (toD (putW (bndW i j u) w p)) := by
          have hx := bnd_x (Gw.x gu) h0 hij hj
          obtain ⟨s1, s2, s3⟩ := putW_same (x := bndW i j u) (by cases u <;> rfl) (by cases u <;> exact Nat.le_refl _) hx.ok p w L hL (Gw.x hw).ok
          exact (show Xw _ 64 26 from ⟨s3, by omega, by omega⟩).shw (by omega) (by omega)
        walk_at "ds"
        refine repr_s SX ?_
        walk_at "ds"
        refine repr_s SX ?_
        walk_at "ds"
        exact hK2 _ _ ⟨_, _, _, fun y h => hy y (List.mem_cons_of_mem _ h), rfl, (g8.trans g9).trans g10⟩
      · intro y hy
        have e59 : (10 : Int) ^ Int.toNat 59 = 10 ^ 59 := rfl
        simp only [List.mem_cons, List.not_mem_nil, or_false] at hy
        rcases hy with rfl | rfl | rfl | rfl | rfl
        · exact ⟨0, 0, rfl, by decide, by decide, by decide⟩
        · exact ⟨0, 9, rfl, by decide, by decide, by decide⟩
        · exact ⟨3, 3, rfl, by decide, by decide, by decide⟩
        · exact ⟨lowB u, topB u + 1, rfl, b0, by omega, by have : (1000 : Int) ≤ 10 ^ 60 := (by decide); omega⟩
        · exact ⟨10 ^ 59, 10 ^ 59, rfl, by decide, by decide, by decide⟩
def loop2 : DTS := (dFor (iRg1 (dCons (dC (.int 4)) dNil)) (gNm 10)
  (dSeq (dPar 11 6 (dCons (dLst dNil) (dCons (dVar 1) dNil)))
  (dSeq (dFor (iRg1 (dCons (dCall spDraw (dCons (dVar 0) (dCons (dC (.int 5)) dNil))) dNil)) (gNm 12)
  (dIfS (dTst (dOp rNev (dVar 2) (dFrz (dLst dNil))))
  (dDrop (dMt mAppend (dVar 11) (dCons (dOp rIx (dVar 2) (dCall spDraw (dCons (dVar 0) (dCons (dCB rLen (dCons (dVar 2) dNil)) dNil)))) dNil)))
  dNext))
  (dSeq (dFor (iSq (dVar 11)) (gNm 3)
  (dAsg (dCall (pSp RLt) (dCons (dVar 6) (dCons (dVar 3) (dCons (dC (.bl true)) dNil)))) (gNm 6)))
  (dIfS (dTst (dOp rNev (dCB rRepr (dCons (dCall (pSp RTc) (dCons (dVar 1) (dCons (dCB rTupC (dCons (dVar 11) dNil)) dNil))) dNil)) (dCB rRepr (dCons (dVar 6) dNil))))
  (dRet (dC (.bl false)))
  dNext)))))
theorem KeepX.updn {a p : Addr} {o : DO} {G G' : GH} (h : G p = none) (k : KeepX a G G') : KeepX a G (updG G' p o) := fun b u n e => by
  rw [updG_ne]; exact k b u n e
  rintro rfl; rw [h] at e; cases e
theorem FeedOk.updn {a p : Addr} {o : DO} {G : GH} (h : FeedOk G a) (hne : a ≠ p) : FeedOk (updG G p o) a := by
  obtain ⟨c, x, y, z, e⟩ := h
  exact ⟨c, x, y, z, by rw [updG_ne hne]; exact e⟩
theorem loop2_ok {w : Wk} {a : Addr} {E : DEnds} {G : GH} {x3 x4 x5 x6 x7 x8 x9 x10 x11 x12 : Option D} (hw : Gw w 64 26) (hf : FeedOk G a)
    (hE : ∀ (y3 y6 y10 y11 y12 : Option D) G', FeedOk G' a → KeepX a G G' → E.nx [some (.ref a), some (toD w), some (.lst ((lpsW w).map fun q => pthD q.1)), y3, x4, x5, y6, x7, x8, x9, y10, y11, y12] G') :
    loop2 E [some (.ref a), some (toD w), some (.lst ((lpsW w).map fun q => pthD q.1)), x3, x4, x5, x6, x7, x8, x9, x10, x11, x12] G := by
  unfold loop2
  have hz : (2000 : Nat) ≤ sizeLine := by decide
  have hc := hw.c
  have hd := hw.d
  walk_at "ds"
  refine ⟨by decide, by decide, ?_⟩
  rw [rngD_map]
  refine forN 4 _ (J := fun _ ρ G' => ∃ y3 y6 y10 y11 y12, ρ = [some (.ref a), some (toD w), some (.lst ((lpsW w).map fun q => pthD q.1)), y3, x4, x5, y6, x7, x8, x9, y10, y11, y12] ∧ FeedOk G' a ∧ KeepX a G G') ?_ ?_ _ _ ⟨_, _, _, _, _, rfl, hf, KeepX.refl _ _⟩
  · rintro ρ G1 ⟨y3, y6, y10, y11, y12, rfl, f1, k1⟩
    exact hE _ _ _ _ _ _ f1 k1
  · rintro k hk ρ G1 ⟨y3, y6, y10, y11, y12, rfl, f1, k1⟩ K hK
    walk_at "ds"
    intro p hp
    have hpa : a ≠ p := f1.ne hp
    walk_at "ds"
    have f2 : FeedOk (updG G1 p (.lst [])) a := FeedOk.updn f1 hpa
    refine ⟨a, 5, rfl, by decide, by decide, f2, fun m G3 m0 m1 f3 k3 => ?_⟩
    have e3 : G3 p = some (.lst []) := keep_ref f2 updG_same hpa k3
    have k13 : KeepX a G1 G3 := (KeepX.updn hp (KeepX.refl a G1)).trans k3
    walk_at "ds"
    refine ⟨by omega, by omega, ?_⟩
    rw [rngD_map]
    refine forN m.toNat _ (J := fun i ρ G' => ∃ (y12 : Option D) (ps : List Pth), ρ = [some (.ref a), some (toD w), some (.lst ((lpsW w).map fun q => pthD q.1)), y3, x4, x5, some (toD w), x7, x8, x9, some (.int (0 + (k : Nat))), some (.ref p), y12] ∧ FeedOk G' a ∧ KeepX a G1 G' ∧ G' p = some (.lst (ps.map pthD)) ∧ ps.length ≤ i ∧ (∀ q ∈ ps, cntA w q = true)) ?_ ?_ _ _ ⟨_, [], rfl, f3, k13, e3, Nat.le_refl _, fun q h => nomatch h⟩
    · rintro ρ G4 ⟨y12, ps, rfl, f4, k4, e4, hl, hps⟩
      walk_at "ds"
      dsimp only
      rw [e4]
      refine dForGo_of (I := fun rest ρ G' => ∃ don rs z3, ps = don ++ rs ∧ rest = rs.map pthD ∧ ρ = [some (.ref a), some (toD w), some (.lst ((lpsW w).map fun q => pthD q.1)), z3, x4, x5, some (toD (tellW true w don)), x7, x8, x9, some (.int (0 + (k : Nat))), some (.ref p), y12] ∧ Grow G4 G') ?_ ?_ _ _ _
        ⟨[], ps, _, rfl, rfl, rfl, Grow.refl _⟩
      · rintro ρ G5 ⟨don, rs, z3, e, e2, rfl, g5⟩
        refine ⟨g5 _ _ e4, ?_⟩
        cases rs with
        | cons => cases e2
        | nil =>
          rw [List.append_nil] at e
          subst e
          walk_at "ds"
          refine tupC_r (g5 _ _ e4) ?_
          walk_at "ds"
          refine ⟨_, ⟨w, ps, rfl, by omega, by omega, hps, by omega, rfl⟩, fun G6 g6 => ?_⟩
          have SX : Shw (toD (tellW true w ps)) := (tell_gw hw).shw (by omega) (by omega)
          walk_at "ds"
          refine repr_s SX ?_
          walk_at "ds"
          refine repr_s SX ?_
          walk_at "ds"
          exact hK _ _ ⟨_, _, _, _, _, rfl, (f4.grow g5).grow g6, ((k1.trans k4).trans (KeepX.of g5)).trans (KeepX.of g6)⟩
      · rintro z rest ρ G5 ⟨don, rs, z3, e, e2, rfl, g5⟩ K2 hK2
        refine ⟨g5 _ _ e4, ?_⟩
        cases rs with
        | nil => cases e2
        | cons q rs =>
          injection e2 with e2 e3
          subst e2 e3
          have hcp := hps q (by rw [e]; simp)
          rw [← tell_cnt true don w q] at hcp
          have gt := tell_gw (t := true) (ps := don) hw
          have := gt.c
          have := gt.d
          walk_at "ds"
          refine ⟨_, ⟨_, q, true, rfl, by omega, by omega, hcp, rfl⟩, fun G6 g6 => ?_⟩
          walk_at "ds"
          rw [← tell_snoc]
          exact hK2 _ _ ⟨don ++ [q], rs, _, by rw [e]; simp, rfl, rfl, g5.trans g6⟩
    · rintro i hi ρ G4 ⟨y12, ps, rfl, f4, k4, e4, hl, hps⟩ K2 hK2
      walk_at "ds"
      refine ne_ll ok_pths ⟨by simp [pureD, pureDs], by simp [depD, depDs]⟩ ?_
      cases hL : lpsW w with
      | nil =>
        rw [show eqvD (.lst (([] : List (Pth × Wk)).map fun q => pthD q.1)) (.lst []) = true from by decide +kernel]
        walk_at "ds"
        refine hK2 _ _ ⟨_, ps, by rw [hL]; rfl, f4, k4, e4, by omega, hps⟩
      | cons q0 L0 =>
        rw [show eqvD (.lst ((q0 :: L0).map fun q => pthD q.1)) (.lst []) = false from by simp [eqvD, eqvDs], ← hL]
        have hn : 0 < (lpsW w).length := by rw [hL]; simp
        have hll : (lpsW w).length ≤ 64 := Nat.le_trans (List.length_filter_le ..) (by rw [pre_len]; exact hc)
        walk_at "ds"
        rw [List.length_map]
        refine ⟨a, _, rfl, by omega, by omega, f4, fun r G5 r0 r1 f5 k5 => ?_⟩
        have e5 : G5 p = some (.lst (ps.map pthD)) := keep_ref f4 e4 hpa k5
        refine pick_at _ r0 r1 fun q hq => ?_
        walk_at "ds"
        refine app_i e5 (by rw [List.length_map]; omega) ?_
        refine hK2 _ _ ⟨_, ps ++ [q.1], rfl, FeedOk.updn f5 hpa, KeepX.updn hp (k4.trans k5), by rw [updG_same, List.map_append]; rfl, by simp; omega, fun x hx => ?_⟩
        rcases List.mem_append.mp hx with h | h
        · exact hps x h
        · rw [List.mem_singleton] at h; subst h; exact (lps_cnt hq).1
theorem law_right_rd : ∀ ds G Q E, spR 40 ds G Q E → r_law_right (pSp RTc) (pSp RLt) spDraw (pSp RBs) (pSp (RlpL 40)) (pSp (RTf false)) (pSp (RTf true)) (pSp RBo) (pSp (RallL 40)) (pSp Rlo) (pSp Rll) { nx := fun _ G' => Q .non G', rt := Q } (startD 13 ds) G := by
  rintro ds G Q E ⟨a, w, rfl, hw, hf, hq⟩
  unfold r_law_right
  have hc := hw.c
  have hd := hw.d
  walk_at "ds"
  refine ⟨_, ⟨w, rfl, by omega, by omega, rfl⟩, fun G1 g1 => ?_⟩
  walk_at "ds"
  refine ⟨_, ⟨w, rfl, by omega, by omega, rfl⟩, fun G2 g2 => ?_⟩
  walk_at "ds"
  refine repr_s (paths_shw hw) ?_
  walk_at "ds"
  refine repr_s (paths_shw hw) ?_
  have f2 := (hf.grow g1).grow g2
  have k2 := (KeepX.of (a := a) g1).trans (KeepX.of g2)
  refine ne_shT ?_
  refine ifF ?_
  refine iNext ?_
  dsimp only
  refine iSeq ?_
  refine loop1_ok hw fun y3 y4 y5 y6 y7 y8 y9 G3 g3 => ?_
  refine iSeq ?_
  refine loop2_ok hw (f2.grow g3) fun y3 y6 y10 y11 y12 G4 f4 k4 => ?_
  walk_at "ds"
  exact hq _ f4 ((k2.trans (KeepX.of g3)).trans k4)
end K04

namespace K04
open PySem L2 Dl K03
local macro_rules | `(tactic| walk_at "ds") => `(tactic| repeat' with_reducible first
  | refine iVar (by with_unfolding_all rfl) ?_
  | refine iCons ?_
  | refine iNil ?_
  | refine iC ?_
  | refine iOp ?_
  | refine iSeq ?_
  | refine iAsg ?_
  | refine iGNm ?_
  | refine iTup ?_
  | refine iFrz ?_
  | refine iTst ?_
  | refine iIfS ?_
  | refine iLst ?_
  | refine iNext ?_
  | refine iXPa ?_
  | refine iXCall ?_
  | refine iNeg ?_
  | refine lstP_i (by assumption) ?_
  | refine lstP_i updG_same ?_
  | refine iDrop ?_
  | refine iGTp (by with_unfolding_all rfl) ?_
  | refine iGsCons ?_
  | refine iGsNil ?_
  | refine lenOk (by with_unfolding_all rfl) ?_
  | refine frzEnd ?_
  | refine iCB ?_
  | refine iMt ?_
  | refine iFor ?_
  | refine iISq ?_
  | refine len_l ?_
  | refine tupC_l ?_
  | refine ifNT ?_
  | fail "stuck")
theorem asks_go {q : Str} {w : Str} {ρ : DSt} {a p : Addr} {lst : List D} {tc : DTE} {iy : Nat} {vs : List Nat} {Ls : List LamI} {G : GH} {Q : DK} (hw : PyData.strOk w = true) (ht : ∀ ρ' G' K, K (.tup [.str "use", .str w, .int (-1)]) G' → tc ((wipeD ρ vs).set iy ρ') G' K) :
    ∀ (xs : List (Phi × XTE)) (G1 : GH), (∀ x ∈ xs, (⟨q, x.1, x.2⟩ : LamI) ∈ Ls) → (∀ x ∈ xs, ∀ G1, Grow G G1 → ∀ (E' : DXK) (Q' : DK), (∀ G', Grow G1 G' → E' (nu w) G') → x.2 (fun x _ G2 => E' x G2) ρ G1 Q') →
      Grow G G1 → G1 a = some (.lst lst) → G1 p = some (.lst []) → (∀ G', Grow G G' → G' p = some (.lst []) → Q (.ref p) G') → dAsksGo (fun G => G a = some (.lst lst)) r_law_heard 4 Ls rNev tc iy vs ρ p (xs.map fun x => .fn q x.1 (fun _ => False) fun _ => none) G1 Q
  | [], G1, _, _, g, ea, ep, hq => ⟨ea, hq _ g ep⟩
  | x :: xs, G1, hL, hx, g, ea, ep, hq => by
    refine ⟨ea, ask1_use (w := w) (hL x (List.mem_cons_self ..)) (hx x (List.mem_cons_self ..) G1 g) fun G2 g2 => ?_⟩
    refine ht _ _ _ ?_
    refine ne_tt (ok_use hw) (ok_use hw) ?_
    rw [eqv_use]
    exact ⟨rfl, asks_go hw ht xs G2 (fun y hy => hL y (List.mem_cons_of_mem _ hy)) (fun y hy => hx y (List.mem_cons_of_mem _ hy)) (g.trans g2) (g2 _ _ ea) (g2 _ _ ep) hq⟩
def Ask (w : Wk) (x : D × Str) : Prop := XOk x.1 ∧ WaOk w x.1 ∧ ¬ isPo w x.1 ∧ ((x.2 = "path" ∧ waL w x.1 = none) ∨ (x.2 = "loop" ∧ ∃ p L u, x.1 = pthD p ∧ alongW w p = some (L ++ [u]) ∧ cntd u = false))
theorem pthD_inj {p q : Pth} (h : pthD p = pthD q) : p = q := by
  have h2 := eqv_pthD p q
  rw [h, eqv_pthD q q] at h2
  simpa using h2
theorem ask_path {w : Wk} {y : D} (h : WaOk w y ∧ waL w y = none ∧ okD y) : Ask w (y, "path") := by
  refine ⟨⟨h.1.pl, h.2.2, h.1.its⟩, h.1, fun ⟨p, e, hc⟩ => ?_, .inl ⟨rfl, h.2.1⟩⟩
  have e : y = pthD p := e
  have h2 := h.2.1
  rw [e, wa_path] at h2
  unfold cntA at hc
  rw [prt_along, h2] at hc
  cases hc
theorem ask_loop {w : Wk} {q : Pth × Wk} (hc : cW w ≤ 400) (hd : dW w ≤ 60) (hq : q ∈ preW [] w) (h : cntd q.2 = false) : Ask w (pthD q.1, "loop") := by
  obtain ⟨r, l, e1, e2, e3, e4⟩ := pre_along w [] q hq
  rw [List.nil_append] at e1
  obtain ⟨L, u, rfl⟩ := along_snoc e2
  have : u = q.2 := by simpa using e3
  subst this
  have hl := along_dep r w _ e2
  rw [e1]
  refine ⟨xok_path _ (by omega), waOk_path hc (by omega), fun ⟨p, e, hcn⟩ => ?_, .inr ⟨rfl, r, L, q.2, rfl, e2, h⟩⟩
  have := pthD_inj e
  subst this
  unfold cntA at hcn
  rw [prt_of e2] at hcn
  dsimp only at hcn
  rw [h] at hcn
  cases hcn
theorem ask_str {w : Wk} {x : D × Str} (h : Ask w x) : PyData.strOk x.2 = true := by
  rcases h.2.2.2 with ⟨e, -⟩ | ⟨e, -⟩ <;> rw [e] <;> decide +kernel
theorem ask_err {w : Wk} {x : D × Str} (h : Ask w x) (f : Wk → Pth → Wk → D) {G : GH} {Q : DK} {E : DXK} (hE : ∀ G', Grow G G' → E (nu x.2) G') : pSpX (RAx f) [toD w, x.1] G Q E := by
  rcases h.2.2.2 with ⟨e, h2⟩ | ⟨e, p, L, u, h2, h3, h4⟩
  · rw [e] at hE; exact pSpX_err ⟨w, _, rfl, h.2.1, .inr (.inr ⟨h2, rfl⟩)⟩ hE
  · rw [e] at hE; exact pSpX_err ⟨w, _, rfl, h.2.1, .inr (.inl ⟨p, L, u, h2, h3, h4, rfl⟩)⟩ hE
theorem ask_wb {w : Wk} {x : D × Str} (h : Ask w x) {lo hi : D} {G : GH} {Q : DK} {E : DXK} (hE : ∀ G', Grow G G' → E (nu x.2) G') : pSpX RWb [toD w, x.1, lo, hi] G Q E := by
  rcases h.2.2.2 with ⟨e, h2⟩ | ⟨e, p, L, u, h2, h3, h4⟩
  · rw [e] at hE; exact pSpX_err ⟨w, _, lo, hi, rfl, h.2.1, .inr (.inr ⟨h2, rfl⟩)⟩ hE
  · rw [e] at hE; exact pSpX_err ⟨w, _, lo, hi, rfl, h.2.1, .inr (.inl ⟨p, L, u, h2, h3, h4, rfl⟩)⟩ hE
def spSR4 (Tb : Addr) : DSp := fun ds G Q _ => ∃ w i, ds = [toD w, .int i] ∧ Gw w 64 26 ∧ G Tb = some (.tab qSR) ∧ ∀ G', Grow G G' → Q (.bl true) G'
def bodyA (Tb : Addr) (φ0 φ1 φ2 φ3 : Phi) : DTS := (dFor (iSq (dVar 4)) (gTp 2 (gsCons (gNm 8) (gsCons (gNm 9) gsNil)))
  (dSeq (dAsg (dLst (dCons (dLam Tb "_law_strays_right.<locals>.<lambda>" φ0) dNil)) (gNm 10))
  (dSeq (dDrop (dMt mAppend (dVar 10) (dCons (dLam Tb "_law_strays_right.<locals>.<lambda>" φ1) dNil)))
  (dSeq (dDrop (dMt mAppend (dVar 10) (dCons (dLam Tb "_law_strays_right.<locals>.<lambda>" φ2) dNil)))
  (dSeq (dDrop (dMt mAppend (dVar 10) (dCons (dLam Tb "_law_strays_right.<locals>.<lambda>" φ3) dNil)))
  (dSeq (dIfS (dTst (dOp rNev (dFrz (dAsks (iSq (dVar 10)) r_law_heard 4 [⟨"_law_strays_right.<locals>.<lambda>", φ0, (xCall (pSpX (RAx fun _ _ u => .tup [.int (lowB u), .int (topB u)])) (xPa (dCons (dVar 0) (dCons (dVar 8) dNil))))⟩, ⟨"_law_strays_right.<locals>.<lambda>", φ1, (xCall (pSpX (fixT true)) (xPa (dCons (dVar 0) (dCons (dVar 8) dNil))))⟩, ⟨"_law_strays_right.<locals>.<lambda>", φ2, (xCall (pSpX (fixT false)) (xPa (dCons (dVar 0) (dCons (dVar 8) dNil))))⟩, ⟨"_law_strays_right.<locals>.<lambda>", φ3, (xCall (pSpX RWb) (xPa (dCons (dVar 0) (dCons (dVar 8) (dCons (dC .non) (dCons (dC .non) dNil))))))⟩] rNev (dTup (dCons (dC (.str "use")) (dCons (dVar 9) (dCons (dNeg (dC (.int 1))) dNil)))) 11 [11])) (dFrz (dLst dNil))))
  (dRet (dC (.bl false)))
  dNext)
  (dIfS (dTst (dOp rNev (dHearL Tb "_law_strays_right.<locals>.<lambda>" r_law_heard 4 (xCall (pSpX RTa) (xPa (dCons (dVar 0) (dCons (dOp rAdd (dCB rTupC (dCons (dVar 3) dNil)) (dTup (dCons (dVar 8) (dCons (dC .non) dNil)))) dNil))))) (dTup (dCons (dC (.str "use")) (dCons (dC (.str "loop")) (dCons (dCB rLen (dCons (dVar 3) dNil)) dNil))))))
  (dRet (dC (.bl false)))
  dNext)))))))
def askD (x : D × Str) : D := .tup [x.1, .str x.2]
theorem bodyA_ok {Tb : Addr} {φ0 φ1 φ2 φ3 : Phi} {w : Wk} {xs : List (D × Str)} {pa : Addr} {E : DEnds} {G : GH} {x1 x2 x5 x6 x7 x8 x9 x10 x11 : Option D} (hw : Gw w 64 26) (hT : G Tb = some (.tab qSR)) (ea : G pa = some (.lst (xs.map askD))) (hxs : ∀ x ∈ xs, Ask w x)
    (hE : ∀ (y8 y9 y10 : Option D) G', Grow G G' → E.nx [some (toD w), x1, x2, some (.lst ((lpsW w).map fun q => pthD q.1)), some (.ref pa), x5, x6, x7, y8, y9, y10, x11] G') :
    bodyA Tb φ0 φ1 φ2 φ3 E [some (toD w), x1, x2, some (.lst ((lpsW w).map fun q => pthD q.1)), some (.ref pa), x5, x6, x7, x8, x9, x10, x11] G := by
  unfold bodyA
  have hz : (2000 : Nat) ≤ sizeLine := by decide
  have hc := hw.c
  have hd := hw.d
  have hll : (lpsW w).length ≤ 64 := Nat.le_trans (List.length_filter_le ..) (by rw [pre_len]; exact hc)
  walk_at "ds"
  dsimp only
  rw [ea]
  refine dForGo_of (I := fun rest ρ G' => ∃ rs y8 y9 y10, rest = rs.map askD ∧ (∀ x ∈ rs, Ask w x) ∧ ρ = [some (toD w), x1, x2, some (.lst ((lpsW w).map fun q => pthD q.1)), some (.ref pa), x5, x6, x7, y8, y9, y10, x11] ∧ Grow G G') ?_ ?_ _ _ _
    ⟨xs, _, _, _, rfl, hxs, rfl, Grow.refl _⟩
  · rintro ρ G1 ⟨rs, y8, y9, y10, -, -, rfl, g1⟩
    exact ⟨g1 _ _ ea, hE _ _ _ _ g1⟩
  · rintro z rest ρ G1 ⟨rs, y8, y9, y10, e0, hm, rfl, g1⟩ K hK
    cases rs with
    | nil => cases e0
    | cons x rs =>
      injection e0 with e2 e3
      subst e2 e3
      refine ⟨g1 _ _ ea, ?_⟩
      have hA := hm x (List.mem_cons_self ..)
      have hs := ask_str hA
      rw [askD]
      walk_at "ds"
      refine ⟨g1 _ _ hT, ?_⟩
      walk_at "ds"
      intro a ha
      have ha0 : G a = none := by cases e : G a with | none => rfl | some o => rw [g1 _ _ e] at ha; cases ha
      walk_at "ds"
      refine ⟨Grow.upd2 ha0 g1 _ _ hT, ?_⟩
      walk_at "ds"
      refine app_i updG_same (by simp only [List.length_cons, List.length_nil]; omega) ?_
      rw [updG_updG]
      walk_at "ds"
      refine ⟨Grow.upd2 ha0 g1 _ _ hT, ?_⟩
      walk_at "ds"
      refine app_i updG_same (by simp only [List.length_cons, List.length_nil, List.length_append]; omega) ?_
      rw [updG_updG]
      walk_at "ds"
      refine ⟨Grow.upd2 ha0 g1 _ _ hT, ?_⟩
      walk_at "ds"
      refine app_i updG_same (by simp only [List.length_cons, List.length_nil, List.length_append]; omega) ?_
      rw [updG_updG]
      walk_at "ds"
      have gA : Grow G (updG G1 a (.lst ([.fn qSR φ0 (fun _ => False) fun _ => none] ++ [.fn qSR φ1 (fun _ => False) fun _ => none] ++ [.fn qSR φ2 (fun _ => False) fun _ => none] ++ [.fn qSR φ3 (fun _ => False) fun _ => none]))) := Grow.upd2 ha0 g1
      have eA : (updG G1 a (.lst ([.fn qSR φ0 (fun _ => False) fun _ => none] ++ [.fn qSR φ1 (fun _ => False) fun _ => none] ++ [.fn qSR φ2 (fun _ => False) fun _ => none] ++ [.fn qSR φ3 (fun _ => False) fun _ => none]))) a = some (.lst [.fn qSR φ0 (fun _ => False) fun _ => none, .fn qSR φ1 (fun _ => False) fun _ => none, .fn qSR φ2 (fun _ => False) fun _ => none, .fn qSR φ3 (fun _ => False) fun _ => none]) := updG_same
      generalize updG G1 a _ = G2 at gA eA ⊢
      unfold dAsks
      walk_at "ds"
      dsimp only
      rw [eA]
      intro p hp
      have hne : a ≠ p := by rintro rfl; rw [hp] at eA; cases eA
      refine asks_go (G := G) (w := x.2) (xs := [(φ0, (xCall (pSpX (RAx fun _ _ u => .tup [.int (lowB u), .int (topB u)])) (xPa (dCons (dVar 0) (dCons (dVar 8) dNil))))), (φ1, (xCall (pSpX (fixT true)) (xPa (dCons (dVar 0) (dCons (dVar 8) dNil))))), (φ2, (xCall (pSpX (fixT false)) (xPa (dCons (dVar 0) (dCons (dVar 8) dNil))))), (φ3, (xCall (pSpX RWb) (xPa (dCons (dVar 0) (dCons (dVar 8) (dCons (dC .non) (dCons (dC .non) dNil)))))))]) hs (fun ρ' G' K h => ?_) _ ?_ ?_ (Grow.upd2 (by cases e : G p with | none => rfl | some o => rw [gA _ _ e] at hp; cases hp) gA) (by rw [updG_ne hne]; exact eA) updG_same fun G3 g3 e3 => ?_
      · walk_at "ds"
        exact h
      · intro y hy
        simp only [List.mem_cons, List.not_mem_nil, or_false] at hy
        rcases hy with rfl | rfl | rfl | rfl
        · exact List.mem_cons_self ..
        · exact List.mem_cons_of_mem _ (List.mem_cons_self ..)
        · exact List.mem_cons_of_mem _ (List.mem_cons_of_mem _ (List.mem_cons_self ..))
        · exact List.mem_cons_of_mem _ (List.mem_cons_of_mem _ (List.mem_cons_of_mem _ (List.mem_cons_self ..)))
      · intro y hy G3 g3 E' Q' hE'
        simp only [List.mem_cons, List.not_mem_nil, or_false] at hy
        rcases hy with rfl | rfl | rfl | rfl
        · walk_at "ds"; exact ask_err hA _ hE'
        · walk_at "ds"; exact ask_err hA _ hE'
        · walk_at "ds"; exact ask_err hA _ hE'
        · walk_at "ds"; exact ask_wb hA hE'
      refine frzR e3 ?_
      have g4 : Grow G (dropG G3 p) := Grow.drop (by cases e : G p with | none => rfl | some o => rw [gA _ _ e] at hp; cases hp) g3
      generalize dropG G3 p = G4 at g4
      walk_at "ds"
      refine ne_ll ⟨by simp [pureD, pureDs], by simp [depD, depDs]⟩ ⟨by simp [pureD, pureDs], by simp [depD, depDs]⟩ ?_
      rw [show eqvD (.lst []) (.lst []) = true from by decide +kernel]
      walk_at "ds"
      refine hearL_use (w := "loop") (k := ((lpsW w).length : Nat)) (g4 _ _ hT) (fun E' Q' hE' => ?_) fun G5 g5 => ?_
      · walk_at "ds"
        refine add_tt (by rw [List.length_map]; simp only [List.length_cons, List.length_nil]; omega) ?_
        walk_at "ds"
        refine pSpX_err (x := nuA "loop" ((lpsW w).length : Nat)) ⟨w, _, rfl, by omega, by omega, .inr (.inr ⟨(lpsW w).map (·.1), x.1, [.non], by rw [List.map_map]; rfl, fun q hq => ?_, by rw [List.length_map]; omega, by simp, hA.1, hA.2.2.1, by rw [List.length_map]⟩)⟩ hE'
        obtain ⟨r, hr, rfl⟩ := List.mem_map.mp hq
        exact (lps_cnt hr).1
      · walk_at "ds"
        rw [List.length_map]
        refine ne_tt (ok_use (by decide +kernel)) (ok_use (by decide +kernel)) ?_
        rw [eqv_use]
        walk_at "ds"
        exact hK _ _ ⟨rs, _, _, _, rfl, fun y hy => hm y (List.mem_cons_of_mem _ hy), rfl, g4.trans g5⟩
end K04

namespace K04
open PySem L2 Dl K03
local macro_rules | `(tactic| walk_at "ds") => `(tactic| repeat' with_reducible first
  | refine iVar (by with_unfolding_all rfl) ?_
  | refine iCons ?_
  | refine iNil ?_
  | refine iC ?_
  | refine iOp ?_
  | refine iSeq ?_
  | refine iAsg ?_
  | refine iGNm ?_
  | refine iTup ?_
  | refine iFrz ?_
  | refine iTst ?_
  | refine iIfS ?_
  | refine iRet ?_
  | refine iCall ?_
  | refine iLst ?_
  | refine iNext ?_
  | refine iXPa ?_
  | refine iXCall ?_
  | refine iNeg ?_
  | refine lstP_i (by assumption) ?_
  | refine lstP_i updG_same ?_
  | refine iDrop ?_
  | refine iGTp (by with_unfolding_all rfl) ?_
  | refine iGsCons ?_
  | refine iGsNil ?_
  | refine lenOk (by with_unfolding_all rfl) ?_
  | refine frzEnd ?_
  | refine lstC_l ?_
  | refine ifT ?_
  | refine ifF ?_
  | refine iCB ?_
  | refine iMt ?_
  | refine iFor ?_
  | refine iISq ?_
  | refine rIx_i (by with_unfolding_all rfl) (by with_unfolding_all rfl) ?_
  | refine rIx_i (by with_unfolding_all rfl) atI_0 ?_
  | refine ifNT ?_
  | fail "stuck")
theorem pick_le {α : Type} (xs : List α) (i k : Int) : (pickL xs i k).length ≤ xs.length := by
  have e : ∀ {β : Type} (ys : List β), ys.length = xs.length → (pickL ys i k).length = (pickL xs i k).length := fun {β} ys e => by
    unfold pickL
    rw [e]
    generalize sliceRange _ _ _ = f
    induction f with
    | nil => rfl
    | cons j f ih =>
      rw [List.filterMap_cons, List.filterMap_cons]
      cases h1 : ys[j]? with
      | none =>
        have : xs[j]? = none := by rw [List.getElem?_eq_none_iff] at h1 ⊢; omega
        rw [this]; exact ih
      | some y =>
        have hj := (List.getElem?_eq_some_iff.mp h1).1
        have : xs[j]? = some xs[j] := List.getElem?_eq_getElem (by omega)
        rw [this, List.length_cons, List.length_cons, ih]
  have h := slicePick_size_le (List.replicate xs.length Value.none).toArray (some i) none (some k)
  have h2 := e (List.replicate xs.length Value.none) (by simp)
  have h3 : (slicePick (List.replicate xs.length Value.none).toArray (some i) none (some k)).size = (pickL (List.replicate xs.length Value.none) i k).length := by
    unfold slicePick pickL
    rw [List.size_toArray, List.size_toArray]
    congr 1
    refine congrArg (fun f => List.filterMap f _) (funext fun j => ?_)
    rw [List.getElem?_toArray]
  rw [h3, h2] at h
  rw [List.size_toArray, List.length_replicate] at h
  exact h
def strB : List D := [.int (-1), .non, .bl true, .str "0", .tup [.int 0], .lst [.int 0], .int (-(10 ^ 59))]
theorem strB_no : ∀ y ∈ strB, Pln y = true ∧ isNumB y = false := by
  intro y hy
  simp only [strB, List.mem_cons, List.not_mem_nil, or_false] at hy
  rcases hy with rfl | rfl | rfl | rfl | rfl | rfl | rfl <;> exact ⟨rfl, by decide +kernel⟩
def bodyB (Tb : Addr) : DTS := (dSeq (dFor (iSq (dFrz (dStep (dFrz (dLst (dCons (dC .non) (dCons (dC (.int 0)) (dCons (dC (.str "")) (dCons (dFrz (dLst dNil)) (dCons (dFrz (dCB rLstC (dCons (dVar 3) dNil))) (dCons (dC (.str "ab")) (dCons (dC (.bl true)) dNil))))))))) (dVar 1) (dC (.int 2))))) (gNm 8)
  (dIfS (dTst (dOp rNev (dHearL Tb "_law_strays_right.<locals>.<lambda>" r_law_heard 4 (xCall (pSpX RTa) (xPa (dCons (dVar 0) (dCons (dVar 8) dNil))))) (dTup (dCons (dC (.str "use")) (dCons (dC (.str "paths")) (dCons (dNeg (dC (.int 1))) dNil))))))
  (dRet (dC (.bl false)))
  dNext))
  (dSeq (dIfS (dTst (dOp rEqv (dVar 3) (dFrz (dLst dNil))))
  (dRet (dC (.bl true)))
  dNext)
  (dSeq (dFor (iSq (dFrz (dStep (dFrz (dLst (dCons (dNeg (dC (.int 1))) (dCons (dC .non) (dCons (dC (.bl true)) (dCons (dC (.str "0")) (dCons (dTup (dCons (dC (.int 0)) dNil)) (dCons (dFrz (dLst (dCons (dC (.int 0)) dNil))) (dCons (dNeg (dOp rPow (dC (.int 10)) (dC (.int 59)))) dNil))))))))) (dVar 1) (dC (.int 2))))) (gNm 8)
  (dSeq (dIfS (dTst (dOp rNev (dHearL Tb "_law_strays_right.<locals>.<lambda>" r_law_heard 4 (xCall (pSpX RWb) (xPa (dCons (dVar 0) (dCons (dOp rIx (dVar 3) (dNeg (dC (.int 1)))) (dCons (dVar 8) (dCons (dC .non) dNil))))))) (dTup (dCons (dC (.str "use")) (dCons (dC (.str "least")) (dCons (dNeg (dC (.int 1))) dNil))))))
  (dRet (dC (.bl false)))
  dNext)
  (dIfS (dTst (dOp rNev (dHearL Tb "_law_strays_right.<locals>.<lambda>" r_law_heard 4 (xCall (pSpX RWb) (xPa (dCons (dVar 0) (dCons (dOp rIx (dVar 3) (dNeg (dC (.int 1)))) (dCons (dC (.int 0)) (dCons (dVar 8) dNil))))))) (dTup (dCons (dC (.str "use")) (dCons (dC (.str "most")) (dCons (dNeg (dC (.int 1))) dNil))))))
  (dRet (dC (.bl false)))
  dNext)))
  (dRet (dOp rEqv (dHearL Tb "_law_strays_right.<locals>.<lambda>" r_law_heard 4 (xCall (pSpX RWb) (xPa (dCons (dVar 0) (dCons (dOp rIx (dVar 3) (dC (.int 0))) (dCons (dC (.int 3)) (dCons (dC (.int 2)) dNil))))))) (dTup (dCons (dC (.str "use")) (dCons (dC (.str "most")) (dCons (dNeg (dC (.int 1))) dNil)))))))))
theorem bodyB_ok {Tb : Addr} {w : Wk} {i : Int} {E : DEnds} {G : GH} {x2 x4 x5 x6 x7 x8 x9 x10 x11 : Option D} (hw : Gw w 64 26) (hT : G Tb = some (.tab qSR))
    (hE : ∀ G', Grow G G' → E.rt (.bl true) G') :
    bodyB Tb E [some (toD w), some (.int i), x2, some (.lst ((lpsW w).map fun q => pthD q.1)), x4, x5, x6, x7, x8, x9, x10, x11] G := by
  unfold bodyB
  have hz : (2000 : Nat) ≤ sizeLine := by decide
  have hc := hw.c
  have hd := hw.d
  have hll : (lpsW w).length ≤ 64 := Nat.le_trans (List.length_filter_le ..) (by rw [pre_len]; exact hc)
  walk_at "ds"
  refine iStep ?_
  walk_at "ds"
  refine ⟨i, rfl, ?_⟩
  walk_at "ds"
  refine ⟨2, rfl, by decide, [.non, .int 0, .str "", .lst [], .lst ((lpsW w).map fun q => pthD q.1), .str "ab", .bl true], rfl, ?_⟩
  refine frzEnd ?_
  dsimp only
  refine dForGo_of (I := fun rest ρ G' => ∃ y8, (∀ y ∈ rest, Pln y = true ∧ ∀ xs, y ≠ .tup xs) ∧ ρ = [some (toD w), some (.int i), x2, some (.lst ((lpsW w).map fun q => pthD q.1)), x4, x5, x6, x7, y8, x9, x10, x11] ∧ Grow G G') ?_ ?_ _ _ _
    ⟨_, ?_, rfl, Grow.refl _⟩
  rotate_left
  · rintro y rest ρ G1 ⟨y8, hy, rfl, g1⟩ K hK
    refine ⟨trivial, ?_⟩
    obtain ⟨h1, h2⟩ := hy y (List.mem_cons_self ..)
    walk_at "ds"
    refine hearL_use (w := "paths") (k := -1) (g1 _ _ hT) (fun E' Q' hE' => ?_) fun G2 g2 => ?_
    · walk_at "ds"
      exact pSpX_err (x := nu "paths") ⟨w, y, rfl, by omega, by omega, .inr (.inl ⟨h1, h2, rfl⟩)⟩ hE'
    · walk_at "ds"
      refine ne_tt (ok_use (by decide +kernel)) (ok_use (by decide +kernel)) ?_
      rw [eqv_use]
      walk_at "ds"
      exact hK _ _ ⟨_, fun y h => hy y (List.mem_cons_of_mem _ h), rfl, g1.trans g2⟩
  · intro y hy
    have hy := pickL_mem hy
    simp only [List.mem_cons, List.not_mem_nil, or_false] at hy
    rcases hy with rfl | rfl | rfl | rfl | rfl | rfl | rfl <;> exact ⟨rfl, fun _ h => nomatch h⟩
  rintro ρ G1 ⟨y8, -, rfl, g1⟩
  refine ⟨trivial, ?_⟩
  walk_at "ds"
  refine eq_ll ok_pths ⟨by simp [pureD, pureDs], by simp [depD, depDs]⟩ ?_
  rcases List.eq_nil_or_concat (lpsW w) with hL | ⟨L0, q1, hL⟩
  · rw [hL, show eqvD (.lst (([] : List (Pth × Wk)).map fun q => pthD q.1)) (.lst []) = true from by decide +kernel]
    walk_at "ds"
    exact hE _ g1
  rw [List.concat_eq_append] at hL
  obtain ⟨q0, L1, hL0⟩ : ∃ q0 L1, lpsW w = q0 :: L1 := by
    cases e : lpsW w with
    | nil => rw [e] at hL; simp at hL
    | cons a b => exact ⟨a, b, rfl⟩
  have A1 : AtP w q1.1 q1.2 := atP_of (by rw [hL]; simp)
  have A0 : AtP w q0.1 q0.2 := atP_of (by rw [hL0]; simp)
  rw [show eqvD (.lst ((lpsW w).map fun q => pthD q.1)) (.lst []) = false from by rw [hL0]; simp [eqvD, eqvDs]]
  have last : ∀ {G2 : GH} {Q : DK}, Q (pthD q1.1) G2 → rIx (.lst ((lpsW w).map fun q => pthD q.1)) (.int (-1)) G2 Q := fun {G2 Q} h => by
    rw [hL, List.map_append, List.map_cons, List.map_nil]
    exact rIx_i rfl (K03.atI_last _ _) h
  have fst : ∀ {G2 : GH} {Q : DK}, Q (pthD q0.1) G2 → rIx (.lst ((lpsW w).map fun q => pthD q.1)) (.int 0) G2 Q := fun {G2 Q} h => by
    rw [hL0, List.map_cons]
    exact rIx_i rfl atI_0 h
  obtain ⟨L', hL'⟩ := A1.al
  obtain ⟨L'', hL''⟩ := A0.al
  walk_at "ds"
  refine iStep ?_
  walk_at "ds"
  refine int2 ⟨by decide, by decide, by decide⟩ ?_
  walk_at "ds"
  refine ⟨i, rfl, ?_⟩
  walk_at "ds"
  refine ⟨2, rfl, by decide, strB, rfl, ?_⟩
  refine frzEnd ?_
  dsimp only
  refine dForGo_of (I := fun rest ρ G' => ∃ y8, (∀ y ∈ rest, y ∈ strB) ∧ ρ = [some (toD w), some (.int i), x2, some (.lst ((lpsW w).map fun q => pthD q.1)), x4, x5, x6, x7, y8, x9, x10, x11] ∧ Grow G G') ?_ ?_ _ _ _
    ⟨_, fun y hy => pickL_mem hy, rfl, g1⟩
  · rintro ρ G2 ⟨y8, -, rfl, g2⟩
    refine ⟨trivial, ?_⟩
    walk_at "ds"
    refine hearL_use (w := "most") (k := -1) (g2 _ _ hT) (fun E' Q' hE' => ?_) fun G3 g3 => ?_
    · walk_at "ds"
      refine fst ?_
      walk_at "ds"
      exact pSpX_err (x := nu "most") ⟨w, _, _, _, rfl, A0.wa (by omega) (by omega), .inl ⟨q0.1, L'', q0.2, rfl, hL'', A0.cn, .inr (.inr ⟨rfl, 3, rfl, by decide, .inr ⟨2, rfl, by decide, by decide⟩, rfl⟩)⟩⟩ hE'
    · walk_at "ds"
      refine eq_tt (ok_use (by decide +kernel)) (ok_use (by decide +kernel)) ?_
      rw [eqv_use]
      exact hE _ (g2.trans g3)
  · rintro y rest ρ G2 ⟨y8, hy, rfl, g2⟩ K hK
    refine ⟨trivial, ?_⟩
    obtain ⟨h1, h2⟩ := strB_no y (hy y (List.mem_cons_self ..))
    walk_at "ds"
    refine hearL_use (w := "least") (k := -1) (g2 _ _ hT) (fun E' Q' hE' => ?_) fun G3 g3 => ?_
    · walk_at "ds"
      refine last ?_
      walk_at "ds"
      exact pSpX_err (x := nu "least") ⟨w, _, _, _, rfl, A1.wa (by omega) (by omega), .inl ⟨q1.1, L', q1.2, rfl, hL', A1.cn, .inr (.inl ⟨h1, h2, rfl⟩)⟩⟩ hE'
    · walk_at "ds"
      refine ne_tt (ok_use (by decide +kernel)) (ok_use (by decide +kernel)) ?_
      rw [eqv_use]
      walk_at "ds"
      refine hearL_use (w := "most") (k := -1) (g3 _ _ (g2 _ _ hT)) (fun E' Q' hE' => ?_) fun G4 g4 => ?_
      · walk_at "ds"
        refine last ?_
        walk_at "ds"
        exact pSpX_err (x := nu "most") ⟨w, _, _, _, rfl, A1.wa (by omega) (by omega), .inl ⟨q1.1, L', q1.2, rfl, hL', A1.cn, .inr (.inr ⟨h1, 0, rfl, by decide, .inl h2, rfl⟩)⟩⟩ hE'
      · walk_at "ds"
        refine ne_tt (ok_use (by decide +kernel)) (ok_use (by decide +kernel)) ?_
        rw [eqv_use]
        walk_at "ds"
        exact hK _ _ ⟨_, fun y h => hy y (List.mem_cons_of_mem _ h), rfl, (g2.trans g3).trans g4⟩
theorem law_strays_right_rd {Tb : Addr} (φ0 φ1 φ2 φ3 : Phi) : ∀ ds G Q E, spSR4 Tb ds G Q E → r_law_strays_right Tb φ0 φ1 φ2 φ3 spStr (pSp Rll) (pSp (RallL 40)) (pSpX RWb) (pSpX RTa) (pSpX (RAx fun _ _ u => .tup [.int (lowB u), .int (topB u)])) (pSpX (fixT true)) (pSpX (fixT false)) { nx := fun _ G' => Q .non G', rt := Q } (startD 12 ds) G := by
  rintro ds G Q E ⟨w, i, rfl, hw, hT, hq⟩
  unfold r_law_strays_right
  have hz : (4000 : Nat) ≤ sizeLine := by decide
  have hc := hw.c
  have hd := hw.d
  have hlen : (preW [] w).length ≤ 64 := by rw [pre_len]; exact hc
  walk_at "ds"
  refine ⟨_, ⟨w, [], rfl, by omega, by omega, by simp; omega, rfl⟩, fun G1 g1 => ?_⟩
  walk_at "ds"
  refine ⟨_, ⟨w, rfl, by omega, by omega, rfl⟩, fun G2 g2 => ?_⟩
  walk_at "ds"
  refine iLc ?_
  walk_at "ds"
  refine iStep ?_
  walk_at "ds"
  refine lcF (preW [] w) prD (fun q => pthD q.1) ?_ (by omega) ?_ ?_
  · intro P hP
    walk_at "ds"
    exact hP _ _ (fun _ => trivial) (Grow.refl _)
  · intro q hq
    refine ⟨_, rfl, fun G1 K hK => ?_⟩
    walk_at "ds"
    exact hK _ (Grow.refl _)
  intro G3 g3
  walk_at "ds"
  refine ⟨w, rfl, by omega, by omega, fun l G4 g4 hlen4 hl => ?_⟩
  walk_at "ds"
  refine ⟨i, rfl, ?_⟩
  walk_at "ds"
  refine ⟨2, rfl, by decide, l, rfl, ?_⟩
  refine frzEnd ?_
  dsimp only
  intro pa hpa
  have g14 := ((g1.trans g2).trans g3).trans g4
  have hpl : (pickL l i 2).length ≤ 1614 := Nat.le_trans (pick_le l i 2) hlen4
  rw [show pickL l i 2 = (pickL l i 2).map id from (List.map_id _).symm]
  refine lc_map (h := fun y => .tup [y, .str "path"]) hpa (fun _ => trivial) (by omega) ?_ ?_
  · intro y hy
    refine ⟨_, rfl, fun G1 K hK => ?_⟩
    rw [show (id y : D) = y from rfl]
    walk_at "ds"
    exact hK _ (Grow.refl _)
  intro G5 g5 e5
  walk_at "ds"
  refine lcFt (preW [] w) prD (fun q => .tup [pthD q.1, .str "loop"]) (fun q => !cntd q.2) ?_ (by omega) ?_ ?_
  · intro P hP
    walk_at "ds"
    exact hP _ _ (fun _ => trivial) (Grow.refl _)
  · intro q hq
    refine ⟨_, rfl, fun G2 K hK => ?_, fun _ G2 K hK => ?_⟩
    · walk_at "ds"
      refine ix0 ?_
      walk_at "ds"
      refine inn_cnt ?_
      exact hK _ (Grow.refl _)
    · walk_at "ds"
      exact hK _ (Grow.refl _)
  intro G6 g6
  have hfl : ((preW [] w).filter fun q => !cntd q.2).length ≤ 64 := Nat.le_trans (List.length_filter_le ..) hlen
  have hpa0 : G pa = none := by cases e : G pa with | none => rfl | some o => rw [g14 _ _ e] at hpa; cases hpa
  walk_at "ds"
  refine ext_i (m := ((preW [] w).filter fun q => !cntd q.2).map fun q => .tup [pthD q.1, .str "loop"]) (g6 _ _ e5) rfl (by rw [List.length_map, List.length_map]; omega) ?_
  have gE : Grow G (updG G6 pa (.lst (((pickL l i 2).map fun y => .tup [y, .str "path"]) ++ ((preW [] w).filter fun q => !cntd q.2).map fun q => .tup [pthD q.1, .str "loop"]))) := Grow.upd2 hpa0 ((g14.trans g5).trans g6)
  have eE : (updG G6 pa (.lst (((pickL l i 2).map fun y => .tup [y, .str "path"]) ++ ((preW [] w).filter fun q => !cntd q.2).map fun q => .tup [pthD q.1, .str "loop"]))) pa = some (.lst (((pickL l i 2).map (fun y => ((y, "path") : D × Str)) ++ ((preW [] w).filter fun q => !cntd q.2).map fun q => ((pthD q.1, "loop") : D × Str)).map askD)) := by
    rw [updG_same, List.map_append, List.map_map, List.map_map]; rfl
  generalize updG G6 pa _ = G7 at gE eE ⊢
  dsimp only
  refine iSeq ?_
  refine bodyA_ok hw (gE _ _ hT) eE (fun x hx => ?_) fun y8 y9 y10 G8 g8 => ?_
  · rcases List.mem_append.mp hx with h | h
    · obtain ⟨y, hy, rfl⟩ := List.mem_map.mp h
      exact ask_path (hl y (pickL_mem hy))
    · obtain ⟨q, hq, rfl⟩ := List.mem_map.mp h
      obtain ⟨h1, h2⟩ := List.mem_filter.mp hq
      exact ask_loop (by omega) (by omega) h1 (by simpa using h2)
  exact bodyB_ok hw (g8 _ _ (gE _ _ hT)) fun G9 g9 => hq _ ((gE.trans g8).trans g9)
end K04

namespace K04
open PySem L2 Dl K03
local macro_rules | `(tactic| walk_at "ds") => `(tactic| repeat' with_reducible first
  | refine iVar (by with_unfolding_all rfl) ?_
  | refine iCons ?_
  | refine iNil ?_
  | refine iC ?_
  | refine iOp ?_
  | refine iSeq ?_
  | refine iAsg ?_
  | refine iGNm ?_
  | refine iTup ?_
  | refine iFrz ?_
  | refine iTst ?_
  | refine iIfS ?_
  | refine iRet ?_
  | refine iCall ?_
  | refine iLst ?_
  | refine iNext ?_
  | refine lstP_i (by assumption) ?_
  | refine lstP_i updG_same ?_
  | refine iCallG ?_
  | refine iDrop ?_
  | refine lenOk (by with_unfolding_all rfl) ?_
  | refine frzEnd ?_
  | refine slT ?_
  | refine iTru ?_
  | refine truB ?_
  | refine iOr ?_
  | refine iNot ?_
  | refine ifF ?_
  | refine iCB ?_
  | refine iMt ?_
  | refine iSl ?_
  | refine iP ?_
  | refine iNoP ?_
  | refine iFor ?_
  | refine iISq ?_
  | refine rIx_i (by with_unfolding_all rfl) (by with_unfolding_all rfl) ?_
  | refine rIx_i (by with_unfolding_all rfl) atI_0 ?_
  | refine ne_strT ?_
  | refine ifNT ?_
  | fail "stuck")
def spLaw04 (Tb : Addr) : DSp := fun ds G Q _ => ∃ ns, ds = [.scr ns] ∧ G Tb = some (.tab qSR) ∧ ∀ G', Q (.bl true) G'
def wWide4 : Wk := .row (List.replicate 20 [Wk.sme 0 2 false, .lop 1 1 true (.sme 3 4 false)]).flatten
theorem gw_wide4 : Gw wWide4 64 26 := ⟨by rw [wWide4, okW]; simp [List.replicate, okW, okWs], by decide, by decide⟩
theorem at_fst : AtP wFst [1] (.lop 1 3 false (.tick 2)) := ⟨⟨[wFst], rfl⟩, rfl, rfl⟩
theorem law_rd {n : Nat} (hn : 4 ≤ n) {Tb : Addr} : ∀ ds G Q E, spLaw04 Tb ds G Q E → r_law (pSp Rlo) (pSp (RC (toD wSnd))) (pSp RBs) (pSp RTc) (pSp (RTf false)) (pSp (RTf true)) (pSp RBo) (pSp (RC (toD wFst))) (spR 40) spWo (spFW n) (spSR4 Tb) spDraw spFeed { nx := fun _ G' => Q .non G', rt := Q } (startD 6 ds) G := by
  rintro ds G Q E ⟨ns, rfl, hT, hq⟩
  unfold r_law
  have e3 : szF 3 = 40 := rfl
  walk_at "ds"
  refine ⟨ns, rfl, fun a G1 g1 f1 ha => ?_⟩
  walk_at "ds"
  refine ⟨a, 3, rfl, by omega, by omega, f1, fun w1 G2 hw1 f2 k2 => ?_⟩
  have hT2 := tab_keep (g1 _ _ hT) f1 k2
  walk_at "ds"
  refine ⟨a, rfl, f2, fun w2 G3 hw2 f3 k3 => ?_⟩
  have hT3 := tab_keep hT2 f2 k3
  walk_at "ds"
  refine ⟨_, ⟨rfl, rfl⟩, fun G4 g4 => ?_⟩
  walk_at "ds"
  dsimp only
  refine dForGo_of (I := fun rest ρ G' => ∃ ws x2 x3, rest = toDs ws ∧ (∀ w ∈ ws, Gw w 64 26) ∧ ρ = [some (.scr ns), some (.ref a), x2, x3, none, none] ∧ FeedOk G' a ∧ G' Tb = some (.tab qSR)) ?_ ?_ _ _ _
    ⟨[w1, w2, wSnd], _, _, rfl, ?_, rfl, f3.grow g4, g4 _ _ hT3⟩
  rotate_left
  · rintro z rest ρ G5 ⟨ws, x2, x3, e0, hw, rfl, f5, hT5⟩ K hK
    cases ws with
    | nil => cases e0
    | cons w ws =>
      rw [toDs] at e0
      injection e0 with e2 e3
      subst e2 e3
      have gw := hw w (List.mem_cons_self ..)
      refine ⟨trivial, ?_⟩
      walk_at "ds"
      refine repr_s (gw.shw (by omega) (by omega)) ?_
      walk_at "ds"
      refine ⟨a, w, rfl, gw, f5, fun G6 f6 k6 => ?_⟩
      have hT6 := tab_keep hT5 f5 k6
      walk_at "ds"
      refine ⟨a, 2, rfl, by decide, by decide, f6, fun r G9 r0 r1 f9 k9 => ?_⟩
      have hT9 := tab_keep hT6 f6 k9
      walk_at "ds"
      refine ⟨w, r, rfl, gw, hT9, fun G10 g10 => ?_⟩
      walk_at "ds"
      refine repr_s (gw.shw (by omega) (by omega)) ?_
      walk_at "ds"
      exact hK _ _ ⟨ws, _, _, rfl, fun v hv => hw v (List.mem_cons_of_mem _ hv), rfl, f9.grow g10, g10 _ _ hT9⟩
  · intro w hw
    simp only [List.mem_cons, List.not_mem_nil, or_false] at hw
    rcases hw with rfl | rfl | rfl
    · exact hw1.gw (by omega) (by omega)
    · exact hw2
    · exact gw_snd
  rintro ρ G5 ⟨ws, x2, x3, -, -, rfl, f5, hT5⟩
  refine ⟨trivial, ?_⟩
  walk_at "ds"
  refine mul_ti (by decide) (by decide) (by decide) ?_
  walk_at "ds"
  refine ⟨a, wWide4, by rfl, gw_wide4, f5, fun G6 f6 k6 => ?_⟩
  walk_at "ds"
  refine ⟨_, ⟨rfl, rfl⟩, fun G7 g7 => ?_⟩
  walk_at "ds"
  refine ⟨_, ⟨wFst, rfl, by decide, by decide, rfl⟩, fun G8 g8 => ?_⟩
  walk_at "ds"
  refine ⟨rfl, rfl, ?_⟩
  rw [show pick [(2, 1), (2, 0)] [] [] [D.tup [D.int 1], toD wFst] = [toD wFst, pthD [1]] from rfl]
  refine ⟨_, ⟨wFst, [1], _, rfl, by decide, by decide, at_fst, rfl⟩, fun G9 g9 => ?_⟩
  walk_at "ds"
  refine ⟨rfl, rfl, ?_⟩
  rw [show pick [(2, 1), (2, 0)] [] [] [D.tup [D.int 1], toD wFst] = [toD wFst, pthD [1]] from rfl]
  refine ⟨_, ⟨wFst, [1], rfl, by decide, by decide, rfl, rfl⟩, fun G10 g10 => ?_⟩
  rw [show toD (telW true wFst [1]) = D.tup [.str "row", .tup [.tup [.str "tick", .int 2], .tup [.str "loop", .int 1, .int 3, .bl true, .tup [.str "tick", .int 2]]]] from rfl]
  walk_at "ds"
  intro p hp
  walk_at "ds"
  refine ⟨rfl, rfl, ?_⟩
  rw [show pick [(2, 1), (2, 0)] [] [] [D.tup [D.int 1], toD wFst] = [toD wFst, pthD [1]] from rfl]
  refine ⟨_, ⟨wFst, [1], rfl, by decide, by decide, rfl, rfl⟩, fun G11 g11 => ?_⟩
  rw [show toD (telW false wFst [1]) = toD wFst from rfl]
  walk_at "ds"
  refine cmp_i (gw_fst.okd (by decide)) (gw_fst.okd (by decide)) ?_
  rw [show id (eqvD (toD wFst) (toD wFst)) = true from by decide +kernel]
  walk_at "ds"
  refine ⟨rfl, rfl, ?_⟩
  rw [show pick [(2, 1), (2, 0)] [] [] [D.tup [D.tup [D.int 1], D.tup [D.int 1]], toD wFst] = [toD wFst, .tup (([[1], [1]] : List Pth).map pthD)] from rfl]
  refine ⟨_, ⟨wFst, [[1], [1]], rfl, by decide, by decide, fun q hq => by simp at hq; subst hq; rfl, by decide, rfl⟩, fun G12 g12 => ?_⟩
  rw [show toD (tellW true wFst [[1], [1]]) = D.tup [.str "row", .tup [.tup [.str "tick", .int 2], .tup [.str "loop", .int 1, .int 3, .bl true, .tup [.str "tick", .int 2]]]] from rfl]
  walk_at "ds"
  refine ext_i (m := [.bl true, .bl true]) (g12 _ _ (g11 _ _ updG_same)) rfl (by decide) ?_
  walk_at "ds"
  refine ⟨rfl, rfl, ?_⟩
  rw [show pick [(2, 3), (2, 2), (2, 1), (2, 0)] [] [] [D.int 9, D.int 0, D.tup [D.int 1], toD wFst] = [toD wFst, pthD [1], .int 0, .int 9] from rfl]
  refine ⟨_, ⟨wFst, [1], _, 0, 9, rfl, by decide, by decide, at_fst, by decide, by decide, rfl⟩, fun G13 g13 => ?_⟩
  rw [show toD (putW (bndW 0 9 (.lop 1 3 false (.tick 2))) wFst [1]) = D.tup [.str "row", .tup [.tup [.str "tick", .int 2], .tup [.str "loop", .int 0, .int 9, .bl false, .tup [.str "tick", .int 2]]]] from rfl]
  walk_at "ds"
  have c4 : cutD [D.str "loop", .int 0, .int 9, .bl false, .tup [.str "tick", .int 2]] none (some 4) = [.str "loop", .int 0, .int 9, .bl false] := by
    rw [show (4 : Int) = ((4 : Nat) : Int) from rfl, cut_take]; rfl
  rw [c4]
  refine app_i (g13 _ _ updG_same) (by decide) ?_
  walk_at "ds"
  refine ne_rl updG_same ⟨by decide +kernel, by decide +kernel⟩ ⟨by decide +kernel, by decide +kernel⟩ ?_
  rw [show eqvD (D.lst ([D.tup (List.map (fun q => pthD q.fst) (lpsW wFst)), D.tup [D.int (lowB (Wk.lop 1 3 false (Wk.tick 2))), D.int (topB (Wk.lop 1 3 false (Wk.tick 2)))], D.bl true] ++ [D.bl true, D.bl true] ++ [D.tup [D.str (Str.ofString "loop"), D.int 0, D.int 9, D.bl false]])) (D.lst [D.tup [D.tup [D.int 1]], D.tup [D.int 1, D.int 3], D.bl true, D.bl true, D.bl true, D.tup [D.str (Str.ofString "loop"), D.int 0, D.int 9, D.bl false]]) = true from by decide +kernel]
  walk_at "ds"
  refine ⟨_, ⟨rfl, rfl⟩, fun G14 g14 => ?_⟩
  walk_at "ds"
  refine ⟨_, ⟨wSnd, rfl, by decide, by decide, rfl⟩, fun G15 g15 => ?_⟩
  walk_at "ds"
  refine eq_tt ⟨by decide +kernel, by decide +kernel⟩ ⟨by decide +kernel, by decide +kernel⟩ ?_
  rw [show eqvD (.tup ((lpsW wSnd).map fun q => pthD q.1)) (.tup [.tup [.int 0, .int 2], .tup [.int 1, .int 0], .tup [.int 1, .int 0, .int 0], .tup [.int 1, .int 2, .int 0], .tup [.int 1, .int 2, .int 2]]) = true from by decide +kernel]
  exact hq _
end K04

namespace K04
open PySem L2 Dl LamX
structure Tx (P : Program) (w : World) (K : PySem.W.Frag) (mg : Str → Option Value) : Prop where
  m_all : mg "all" = none
  m_bool : mg "bool" = none
  m_dict : mg "dict" = none
  m_enumerate : mg "enumerate" = none
  m_int : mg "int" = none
  m_isinstance : mg "isinstance" = none
  m_len : mg "len" = none
  m_list : mg "list" = none
  m_min : mg "min" = none
  m_range : mg "range" = none
  m_repr : mg "repr" = none
  m_sum : mg "sum" = none
  m_tuple : mg "tuple" = none
  m_zip : mg "zip" = none
  c_COUNTED : ∃ u, mg "COUNTED" = some u ∧ ∃ v, RelV v u ∧ ∀ G H, RepV K G H (.tup [(.str "some"), (.str "loop")]) v
  x_NotUsable : XClass P w K mg "NotUsable" ["word", "at"]
  g_BarError : mg "BarError" = some (.ref (He.ga K "BarError"))
  g_InvalidPaper : mg "InvalidPaper" = some (.ref (He.ga K "InvalidPaper"))
  g_InvalidRow : mg "InvalidRow" = some (.ref (He.ga K "InvalidRow"))
  g_InvalidText : mg "InvalidText" = some (.ref (He.ga K "InvalidText"))
  g_LiveError : mg "LiveError" = some (.ref (He.ga K "LiveError"))
  g_NotNext : mg "NotNext" = some (.ref (He.ga K "NotNext"))
  g_NotUsable : mg "NotUsable" = some (.ref (He.ga K "NotUsable"))
  g_PaperError : mg "PaperError" = some (.ref (He.ga K "PaperError"))
  g_TextError : mg "TextError" = some (.ref (He.ga K "TextError"))
  g_WorkError : mg "WorkError" = some (.ref (He.ga K "WorkError"))
  et : ExT K CT
theorem hu70_of {A : Around} {k : Nat} (hr : Room k A) : A.units + 70 < cLine := by have := hr.un; omega
abbrev N_is_integer : List Str := ["thing"]
abbrev P_is_integer : List Str := ["thing"]

theorem sc_is_integer : FnScope N_is_integer P_is_integer (defScope s_is_integer) := ⟨rfl, rfl, rfl, by decide +kernel, rfl, by decide +kernel, by decide +kernel⟩

theorem b_is_integer {P : Program} {w : World} {K : PySem.W.Frag} {mg : Str → Option Value} {base : Heap} {k : Nat} {f : Addr} (T : Tx P w K mg)    (cdv : Value) (A : Around) (out : List Env) (st : Shared) (H : Hp) (E : XK)
    (hr : Room k (A.deeper (PyProof.Rows.envOfC "is_integer" (defScope s_is_integer) st.heap.objs.size f cdv))) (hgd : (A.deeper (PyProof.Rows.envOfC "is_integer" (defScope s_is_integer) st.heap.objs.size f cdv)).guards = some []) :
    DSs (cxOf CX0 P w K mg base N_is_integer "is_integer" (defScope s_is_integer) f cdv A out st H E).nox (defBody s_is_integer) (r_is_integer) := by
  have SC := sc_is_integer
  have hu := hu_of hr
  have hu64 := hr.units
  have hu70 := hu70_of hr
  exact (ds_one (ds_ret (de_and (de_isi (T := "int") (by decide) rfl T.m_isinstance rfl T.m_int (by decide +kernel) (dv 0)) (de_one (de_not (de_isi (T := "bool") (by decide) rfl T.m_isinstance rfl T.m_bool (by decide +kernel) (dv 0)))))))

theorem d_is_integer {P : Program} {w : World} {K : PySem.W.Frag} {mg : Str → Option Value} {base : Heap} {k : Nat} {f : Addr} {fd : FuncData} {sp : DSp} (T : Tx P w K mg)   
    (F : FunD K "is_integer" "is_integer" (defArgs s_is_integer) (defBody s_is_integer) (defScope s_is_integer) [] [] f fd) (len : ∀ ds G Q E, sp ds G Q E → ds.length = 1)
    (ok : ∀ ds G Q E, sp ds G Q E → (r_is_integer) { nx := fun _ G' => Q .non G', rt := Q } (startD 1 ds) G) : DFn P w K mg base (k + 1) f fd P_is_integer sp :=
  dfn_of F sc_is_integer len (b_is_integer T) ok

theorem k_is_integer {P : Program} {w : World} {K : PySem.W.Frag} {mg : Str → Option Value} {base : Heap} {k : Nat} {f : Addr} {fd : FuncData} {sp : DSp} (T : Tx P w K mg)   
    (F : FunD K "is_integer" "is_integer" (defArgs s_is_integer) (defBody s_is_integer) (defScope s_is_integer) [] [] f fd) (hm : mg "is_integer" = some (.ref f)) (len : ∀ ds G Q E, sp ds G Q E → ds.length = 1)
    (ok : ∀ ds G Q E, sp ds G Q E → (r_is_integer) { nx := fun _ G' => Q .non G', rt := Q } (startD 1 ds) G) : Callee P w K mg base (k + 1) "is_integer" P_is_integer sp :=
  callee_of F hm (d_is_integer T F len ok) (fun _ _ _ _ _ _ us hl => match us, hl with | [_], _ => rfl) (fun _ _ _ _ _ _ us hl => match us, hl with | [_], _ => rfl)

abbrev N_is_number : List Str := ["thing"]
abbrev P_is_number : List Str := ["thing"]

theorem sc_is_number : FnScope N_is_number P_is_number (defScope s_is_number) := ⟨rfl, rfl, rfl, by decide +kernel, rfl, by decide +kernel, by decide +kernel⟩

theorem b_is_number {P : Program} {w : World} {K : PySem.W.Frag} {mg : Str → Option Value} {base : Heap} {k : Nat} {f : Addr} (T : Tx P w K mg) {sp_is_integer : DSp} (C_is_integer : Callee P w K mg base k "is_integer" P_is_integer sp_is_integer)  (cdv : Value) (A : Around) (out : List Env) (st : Shared) (H : Hp) (E : XK)
    (hr : Room k (A.deeper (PyProof.Rows.envOfC "is_number" (defScope s_is_number) st.heap.objs.size f cdv))) (hgd : (A.deeper (PyProof.Rows.envOfC "is_number" (defScope s_is_number) st.heap.objs.size f cdv)).guards = some []) :
    DSs (cxOf CX0 P w K mg base N_is_number "is_number" (defScope s_is_number) f cdv A out st H E).nox (defBody s_is_number) (r_is_number sp_is_integer) := by
  have SC := sc_is_number
  have hu := hu_of hr
  have hu64 := hr.units
  have hu70 := hu70_of hr
  exact (ds_one (ds_ret (de_and (dc C_is_integer hr hgd rfl (da_cons (dv 0) da_nil)) (de_one (de_cmp o_ge (dv 0) de_int (nomark _))))))

theorem d_is_number {P : Program} {w : World} {K : PySem.W.Frag} {mg : Str → Option Value} {base : Heap} {k : Nat} {f : Addr} {fd : FuncData} {sp : DSp} (T : Tx P w K mg) {sp_is_integer : DSp} (C_is_integer : Callee P w K mg base k "is_integer" P_is_integer sp_is_integer) 
    (F : FunD K "is_number" "is_number" (defArgs s_is_number) (defBody s_is_number) (defScope s_is_number) [] [] f fd) (len : ∀ ds G Q E, sp ds G Q E → ds.length = 1)
    (ok : ∀ ds G Q E, sp ds G Q E → (r_is_number sp_is_integer) { nx := fun _ G' => Q .non G', rt := Q } (startD 1 ds) G) : DFn P w K mg base (k + 1) f fd P_is_number sp :=
  dfn_of F sc_is_number len (b_is_number T C_is_integer) ok

theorem k_is_number {P : Program} {w : World} {K : PySem.W.Frag} {mg : Str → Option Value} {base : Heap} {k : Nat} {f : Addr} {fd : FuncData} {sp : DSp} (T : Tx P w K mg) {sp_is_integer : DSp} (C_is_integer : Callee P w K mg base k "is_integer" P_is_integer sp_is_integer) 
    (F : FunD K "is_number" "is_number" (defArgs s_is_number) (defBody s_is_number) (defScope s_is_number) [] [] f fd) (hm : mg "is_number" = some (.ref f)) (len : ∀ ds G Q E, sp ds G Q E → ds.length = 1)
    (ok : ∀ ds G Q E, sp ds G Q E → (r_is_number sp_is_integer) { nx := fun _ G' => Q .non G', rt := Q } (startD 1 ds) G) : Callee P w K mg base (k + 1) "is_number" P_is_number sp :=
  callee_of F hm (d_is_number T C_is_integer F len ok) (fun _ _ _ _ _ _ us hl => match us, hl with | [_], _ => rfl) (fun _ _ _ _ _ _ us hl => match us, hl with | [_], _ => rfl)

abbrev N_inner_works : List Str := ["work"]
abbrev P_inner_works : List Str := ["work"]

theorem sc_inner_works : FnScope N_inner_works P_inner_works (defScope s_inner_works) := ⟨rfl, rfl, rfl, by decide +kernel, rfl, by decide +kernel, by decide +kernel⟩

theorem b_inner_works {P : Program} {w : World} {K : PySem.W.Frag} {mg : Str → Option Value} {base : Heap} {k : Nat} {f : Addr} (T : Tx P w K mg)    (cdv : Value) (A : Around) (out : List Env) (st : Shared) (H : Hp) (E : XK)
    (hr : Room k (A.deeper (PyProof.Rows.envOfC "inner_works" (defScope s_inner_works) st.heap.objs.size f cdv))) (hgd : (A.deeper (PyProof.Rows.envOfC "inner_works" (defScope s_inner_works) st.heap.objs.size f cdv)).guards = some []) :
    DSs (cxOf CX0 P w K mg base N_inner_works "inner_works" (defScope s_inner_works) f cdv A out st H E).nox (defBody s_inner_works) (r_inner_works) := by
  have SC := sc_inner_works
  have hu := hu_of hr
  have hu64 := hr.units
  have hu70 := hu70_of hr
  exact (ds_cons (ds_if (dt_cmp o_in (de_ix (dv 0) de_int) (de_tup (da_cons de_str (da_cons de_str da_nil))) rfl)
  (ds_one (ds_ret (de_frz (de_callTy c_list rfl T.m_list (by decide +kernel) (da_cons (de_ix (dv 0) de_int) da_nil)))))
  ds_nil)
  (ds_cons (ds_if (dt_cmp (o_eq hu64) (de_ix (dv 0) de_int) de_str (nomark _))
  (ds_one (ds_ret (de_frz (de_lst (da_cons (de_ix (dv 0) de_int) da_nil)))))
  ds_nil)
  (ds_one (ds_ret (de_if (dt_cmp (o_eq hu64) (de_ix (dv 0) de_int) de_str (nomark _)) (de_frz (de_lst (da_cons (de_ix (dv 0) de_int) (da_cons (de_ix (dv 0) de_int) da_nil)))) (de_frz (de_lst da_nil)))))))

theorem d_inner_works {P : Program} {w : World} {K : PySem.W.Frag} {mg : Str → Option Value} {base : Heap} {k : Nat} {f : Addr} {fd : FuncData} {sp : DSp} (T : Tx P w K mg)   
    (F : FunD K "inner_works" "inner_works" (defArgs s_inner_works) (defBody s_inner_works) (defScope s_inner_works) [] [] f fd) (len : ∀ ds G Q E, sp ds G Q E → ds.length = 1)
    (ok : ∀ ds G Q E, sp ds G Q E → (r_inner_works) { nx := fun _ G' => Q .non G', rt := Q } (startD 1 ds) G) : DFn P w K mg base (k + 1) f fd P_inner_works sp :=
  dfn_of F sc_inner_works len (b_inner_works T) ok

theorem k_inner_works {P : Program} {w : World} {K : PySem.W.Frag} {mg : Str → Option Value} {base : Heap} {k : Nat} {f : Addr} {fd : FuncData} {sp : DSp} (T : Tx P w K mg)   
    (F : FunD K "inner_works" "inner_works" (defArgs s_inner_works) (defBody s_inner_works) (defScope s_inner_works) [] [] f fd) (hm : mg "inner_works" = some (.ref f)) (len : ∀ ds G Q E, sp ds G Q E → ds.length = 1)
    (ok : ∀ ds G Q E, sp ds G Q E → (r_inner_works) { nx := fun _ G' => Q .non G', rt := Q } (startD 1 ds) G) : Callee P w K mg base (k + 1) "inner_works" P_inner_works sp :=
  callee_of F hm (d_inner_works T F len ok) (fun _ _ _ _ _ _ us hl => match us, hl with | [_], _ => rfl) (fun _ _ _ _ _ _ us hl => match us, hl with | [_], _ => rfl)

abbrev N_inner_pairs : List Str := ["path", "work", "k", "inner"]
abbrev P_inner_pairs : List Str := ["path", "work"]

theorem sc_inner_pairs : FnScope N_inner_pairs P_inner_pairs (defScope s_inner_pairs) := ⟨rfl, rfl, rfl, by decide +kernel, rfl, by decide +kernel, by decide +kernel⟩

theorem b_inner_pairs {P : Program} {w : World} {K : PySem.W.Frag} {mg : Str → Option Value} {base : Heap} {k : Nat} {f : Addr} (T : Tx P w K mg) {sp_inner_works : DSp} (C_inner_works : Callee P w K mg base k "inner_works" P_inner_works sp_inner_works)  (cdv : Value) (A : Around) (out : List Env) (st : Shared) (H : Hp) (E : XK)
    (hr : Room k (A.deeper (PyProof.Rows.envOfC "inner_pairs" (defScope s_inner_pairs) st.heap.objs.size f cdv))) (hgd : (A.deeper (PyProof.Rows.envOfC "inner_pairs" (defScope s_inner_pairs) st.heap.objs.size f cdv)).guards = some []) :
    DSs (cxOf CX0 P w K mg base N_inner_pairs "inner_pairs" (defScope s_inner_pairs) f cdv A out st H E).nox (defBody s_inner_pairs) (r_inner_pairs sp_inner_works) := by
  have SC := sc_inner_pairs
  have hu := hu_of hr
  have hu64 := hr.units
  have hu70 := hu70_of hr
  exact (ds_one (ds_ret (de_frz (de_lc (own := [("k", 2), ("inner", 3)]) (ct := (.tup [2, 3])) rfl SC.nd (di_enumL rfl T.m_enumerate (dc C_inner_works hr hgd rfl (da_cons (dv 1) da_nil))) (blkOk_by (by show blkC N_inner_pairs (defScope s_inner_pairs) _ _ = true; decide +kernel)) (by decide) (fun _ _ _ _ _ => pg_tup rfl (pgs_cons (pg_name (i := 2) SC.nd rfl (Or.inl rfl)) (pgs_cons (pg_name (i := 3) SC.nd rfl (Or.inl rfl)) pgs_nil))) (fun _ _ _ _ _ => dts_nil) (fun _ _ _ _ _ => (de_tup (da_cons (de_tup (da_star (dv 0) (da_cons (dv 2) da_nil))) (da_cons (dv 3) da_nil))))))))

theorem d_inner_pairs {P : Program} {w : World} {K : PySem.W.Frag} {mg : Str → Option Value} {base : Heap} {k : Nat} {f : Addr} {fd : FuncData} {sp : DSp} (T : Tx P w K mg) {sp_inner_works : DSp} (C_inner_works : Callee P w K mg base k "inner_works" P_inner_works sp_inner_works) 
    (F : FunD K "inner_pairs" "inner_pairs" (defArgs s_inner_pairs) (defBody s_inner_pairs) (defScope s_inner_pairs) [] [] f fd) (len : ∀ ds G Q E, sp ds G Q E → ds.length = 2)
    (ok : ∀ ds G Q E, sp ds G Q E → (r_inner_pairs sp_inner_works) { nx := fun _ G' => Q .non G', rt := Q } (startD 4 ds) G) : DFn P w K mg base (k + 1) f fd P_inner_pairs sp :=
  dfn_of F sc_inner_pairs len (b_inner_pairs T C_inner_works) ok

theorem k_inner_pairs {P : Program} {w : World} {K : PySem.W.Frag} {mg : Str → Option Value} {base : Heap} {k : Nat} {f : Addr} {fd : FuncData} {sp : DSp} (T : Tx P w K mg) {sp_inner_works : DSp} (C_inner_works : Callee P w K mg base k "inner_works" P_inner_works sp_inner_works) 
    (F : FunD K "inner_pairs" "inner_pairs" (defArgs s_inner_pairs) (defBody s_inner_pairs) (defScope s_inner_pairs) [] [] f fd) (hm : mg "inner_pairs" = some (.ref f)) (len : ∀ ds G Q E, sp ds G Q E → ds.length = 2)
    (ok : ∀ ds G Q E, sp ds G Q E → (r_inner_pairs sp_inner_works) { nx := fun _ G' => Q .non G', rt := Q } (startD 4 ds) G) : Callee P w K mg base (k + 1) "inner_pairs" P_inner_pairs sp :=
  callee_of F hm (d_inner_pairs T C_inner_works F len ok) (fun _ _ _ _ _ _ us hl => match us, hl with | [_, _], _ => rfl) (fun _ _ _ _ _ _ us hl => match us, hl with | [_, _], _ => rfl)

abbrev N_require_usable : List Str := ["truth", "word", "at"]
abbrev P_require_usable : List Str := ["truth", "word", "at"]

theorem sc_require_usable : FnScope N_require_usable P_require_usable (defScope s_require_usable) := ⟨rfl, rfl, rfl, by decide +kernel, rfl, by decide +kernel, by decide +kernel⟩

theorem b_require_usable {P : Program} {w : World} {K : PySem.W.Frag} {mg : Str → Option Value} {base : Heap} {k : Nat} {f : Addr} (T : Tx P w K mg)         (hk2 : 2 ≤ k) (cdv : Value) (A : Around) (out : List Env) (st : Shared) (H : Hp) (E : XK)
    (hr : Room k (A.deeper (PyProof.Rows.envOfC "require_usable" (defScope s_require_usable) st.heap.objs.size f cdv))) (hgd : (A.deeper (PyProof.Rows.envOfC "require_usable" (defScope s_require_usable) st.heap.objs.size f cdv)).guards = some []) (tk : Takes (cxOf (L2.CX P w) P w K mg base N_require_usable "require_usable" (defScope s_require_usable) f cdv A out st H E) (fun c d _ H' => E c d H')) (hpo : PassesOwn (model P w) (A.deeper (PyProof.Rows.envOfC "require_usable" (defScope s_require_usable) st.heap.objs.size f cdv)) (PyProof.Rows.envOfC "require_usable" (defScope s_require_usable) st.heap.objs.size f cdv) (cxOf (L2.CX P w) P w K mg base N_require_usable "require_usable" (defScope s_require_usable) f cdv A out st H E).xe) :
    XSs (cxOf (L2.CX P w) P w K mg base N_require_usable "require_usable" (defScope s_require_usable) f cdv A out st H E) (fun c d _ H' => E c d H') (defBody s_require_usable) (r_require_usable) := by
  have SC := sc_require_usable
  have hu := hu_of hr
  have hu64 := hr.units
  have hu70 := hu70_of hr
  exact (xs_one (xs_if (xt_p (dt_not (dt_tru (dv 0))))
  (xs_one (xs_raise T.x_NotUsable rfl tk (hr.mono hk2) rfl (xa_p (da_cons (dv 1) (da_cons (dv 2) da_nil)))))
  (xss_p ds_nil)))

theorem d_require_usable {P : Program} {w : World} {K : PySem.W.Frag} {mg : Str → Option Value} {base : Heap} {k : Nat} {f : Addr} {fd : FuncData} {sp : DSp} (T : Tx P w K mg)         (hk2 : 2 ≤ k)
    (F : FunD K "require_usable" "require_usable" (defArgs s_require_usable) (defBody s_require_usable) (defScope s_require_usable) [] [] f fd) (len : ∀ ds G Q E, sp ds G Q E → ds.length = 3)
    (ok : ∀ ds G Q E, sp ds G Q E → (r_require_usable) (fun x _ G' => E x G') { nx := fun _ G' => Q .non G', rt := Q } (startD 3 ds) G) : XFn P w K mg base (k + 1) f fd P_require_usable sp :=
  xfn_of F sc_require_usable len (b_require_usable T hk2) ok

theorem k_require_usable {P : Program} {w : World} {K : PySem.W.Frag} {mg : Str → Option Value} {base : Heap} {k : Nat} {f : Addr} {fd : FuncData} {sp : DSp} (T : Tx P w K mg)         (hk2 : 2 ≤ k)
    (F : FunD K "require_usable" "require_usable" (defArgs s_require_usable) (defBody s_require_usable) (defScope s_require_usable) [] [] f fd) (hm : mg "require_usable" = some (.ref f)) (len : ∀ ds G Q E, sp ds G Q E → ds.length = 3)
    (ok : ∀ ds G Q E, sp ds G Q E → (r_require_usable) (fun x _ G' => E x G') { nx := fun _ G' => Q .non G', rt := Q } (startD 3 ds) G) : XCallee P w K mg base (k + 1) "require_usable" P_require_usable sp :=
  xcallee_of F hm (d_require_usable T hk2 F len ok) (fun _ _ _ _ _ _ us hl => match us, hl with | [_, _, _], _ => rfl) (fun _ _ _ _ _ _ us hl => match us, hl with | [_, _, _], _ => rfl)

abbrev N_all_pairs : List Str := ["work", "found", "waiting", "path", "part"]
abbrev P_all_pairs : List Str := ["work"]

theorem sc_all_pairs : FnScope N_all_pairs P_all_pairs (defScope s_all_pairs) := ⟨rfl, rfl, rfl, by decide +kernel, rfl, by decide +kernel, by decide +kernel⟩

theorem b_all_pairs {P : Program} {w : World} {K : PySem.W.Frag} {mg : Str → Option Value} {base : Heap} {k : Nat} {f : Addr} (T : Tx P w K mg) {sp_inner_pairs : DSp} (C_inner_pairs : Callee P w K mg base k "inner_pairs" P_inner_pairs sp_inner_pairs)  (cdv : Value) (A : Around) (out : List Env) (st : Shared) (H : Hp) (E : XK)
    (hr : Room k (A.deeper (PyProof.Rows.envOfC "all_pairs" (defScope s_all_pairs) st.heap.objs.size f cdv))) (hgd : (A.deeper (PyProof.Rows.envOfC "all_pairs" (defScope s_all_pairs) st.heap.objs.size f cdv)).guards = some []) :
    DSs (cxOf CX0 P w K mg base N_all_pairs "all_pairs" (defScope s_all_pairs) f cdv A out st H E).nox (defBody s_all_pairs) (r_all_pairs sp_inner_pairs) := by
  have SC := sc_all_pairs
  have hu := hu_of hr
  have hu64 := hr.units
  have hu70 := hu70_of hr
  exact (ds_cons (ds_set (i := 1) SC.nd rfl (by first | exact Or.inl rfl | exact Or.inr rfl) (de_lst da_nil))
  (ds_cons (ds_set (i := 2) SC.nd rfl (by first | exact Or.inl rfl | exact Or.inr rfl) (de_lst (da_cons (de_tup (da_cons (de_tup da_nil) (da_cons (dv 0) da_nil))) da_nil)))
  (ds_cons (ds_while PassesOwn.never (dt_cmp o_gt (de_callB c_len rfl T.m_len PySem.boot_len (da_cons (dv 2) da_nil)) de_int (nomark _))
  (ds_cons (ds_asg (de_pop (dv 2)) (dg_tup rfl (dgs_cons (dg_name (i := 3) SC.nd rfl (by first | exact Or.inl rfl | exact Or.inr rfl)) (dgs_cons (dg_name (i := 4) SC.nd rfl (by first | exact Or.inl rfl | exact Or.inr rfl)) dgs_nil))))
  (ds_cons (ds_expr (de_append (dv 1) (de_tup (da_cons (dv 3) (da_cons (dv 4) da_nil)))))
  (ds_one (ds_expr (de_extend (dv 2) (de_frz (de_rev (dc C_inner_pairs hr hgd rfl (da_cons (dv 3) (da_cons (dv 4) da_nil)))))))))))
  (ds_one (ds_ret (de_frz (dv 1)))))))

theorem d_all_pairs {P : Program} {w : World} {K : PySem.W.Frag} {mg : Str → Option Value} {base : Heap} {k : Nat} {f : Addr} {fd : FuncData} {sp : DSp} (T : Tx P w K mg) {sp_inner_pairs : DSp} (C_inner_pairs : Callee P w K mg base k "inner_pairs" P_inner_pairs sp_inner_pairs) 
    (F : FunD K "all_pairs" "all_pairs" (defArgs s_all_pairs) (defBody s_all_pairs) (defScope s_all_pairs) [] [] f fd) (len : ∀ ds G Q E, sp ds G Q E → ds.length = 1)
    (ok : ∀ ds G Q E, sp ds G Q E → (r_all_pairs sp_inner_pairs) { nx := fun _ G' => Q .non G', rt := Q } (startD 5 ds) G) : DFn P w K mg base (k + 1) f fd P_all_pairs sp :=
  dfn_of F sc_all_pairs len (b_all_pairs T C_inner_pairs) ok

theorem k_all_pairs {P : Program} {w : World} {K : PySem.W.Frag} {mg : Str → Option Value} {base : Heap} {k : Nat} {f : Addr} {fd : FuncData} {sp : DSp} (T : Tx P w K mg) {sp_inner_pairs : DSp} (C_inner_pairs : Callee P w K mg base k "inner_pairs" P_inner_pairs sp_inner_pairs) 
    (F : FunD K "all_pairs" "all_pairs" (defArgs s_all_pairs) (defBody s_all_pairs) (defScope s_all_pairs) [] [] f fd) (hm : mg "all_pairs" = some (.ref f)) (len : ∀ ds G Q E, sp ds G Q E → ds.length = 1)
    (ok : ∀ ds G Q E, sp ds G Q E → (r_all_pairs sp_inner_pairs) { nx := fun _ G' => Q .non G', rt := Q } (startD 5 ds) G) : Callee P w K mg base (k + 1) "all_pairs" P_all_pairs sp :=
  callee_of F hm (d_all_pairs T C_inner_pairs F len ok) (fun _ _ _ _ _ _ us hl => match us, hl with | [_], _ => rfl) (fun _ _ _ _ _ _ us hl => match us, hl with | [_], _ => rfl)

abbrev N_works_along : List Str := ["work", "path", "found", "k", "inner"]
abbrev P_works_along : List Str := ["work", "path"]

theorem sc_works_along : FnScope N_works_along P_works_along (defScope s_works_along) := ⟨rfl, rfl, rfl, by decide +kernel, rfl, by decide +kernel, by decide +kernel⟩

theorem b_works_along {P : Program} {w : World} {K : PySem.W.Frag} {mg : Str → Option Value} {base : Heap} {k : Nat} {f : Addr} (T : Tx P w K mg) {sp_is_number : DSp} {sp_inner_works : DSp} {sx_require_usable : DSp} (C_is_number : Callee P w K mg base k "is_number" P_is_number sp_is_number) (C_inner_works : Callee P w K mg base k "inner_works" P_inner_works sp_inner_works)  (X_require_usable : XCallee P w K mg base k "require_usable" P_require_usable sx_require_usable)    (cdv : Value) (A : Around) (out : List Env) (st : Shared) (H : Hp) (E : XK)
    (hr : Room k (A.deeper (PyProof.Rows.envOfC "works_along" (defScope s_works_along) st.heap.objs.size f cdv))) (hgd : (A.deeper (PyProof.Rows.envOfC "works_along" (defScope s_works_along) st.heap.objs.size f cdv)).guards = some []) (tk : Takes (cxOf (L2.CX P w) P w K mg base N_works_along "works_along" (defScope s_works_along) f cdv A out st H E) (fun c d _ H' => E c d H')) (hpo : PassesOwn (model P w) (A.deeper (PyProof.Rows.envOfC "works_along" (defScope s_works_along) st.heap.objs.size f cdv)) (PyProof.Rows.envOfC "works_along" (defScope s_works_along) st.heap.objs.size f cdv) (cxOf (L2.CX P w) P w K mg base N_works_along "works_along" (defScope s_works_along) f cdv A out st H E).xe) :
    XSs (cxOf (L2.CX P w) P w K mg base N_works_along "works_along" (defScope s_works_along) f cdv A out st H E) (fun c d _ H' => E c d H') (defBody s_works_along) (r_works_along sp_is_number sp_inner_works sx_require_usable) := by
  have SC := sc_works_along
  have hu := hu_of hr
  have hu64 := hr.units
  have hu70 := hu70_of hr
  exact (xs_cons (xs_expr (xc X_require_usable tk hr hgd rfl (xa_p (da_cons (de_isi (T := "tuple") (by decide) rfl T.m_isinstance rfl T.m_tuple (by decide +kernel) (dv 1)) (da_cons de_str (da_cons (de_neg de_int) da_nil))))))
  (xs_cons (xs_p (ds_set (i := 2) SC.nd rfl (by first | exact Or.inl rfl | exact Or.inr rfl) (de_lst (da_cons (dv 0) da_nil))))
  (xs_cons (xs_for hpo rfl (di_seq (dv 1)) (dg_name (i := 3) SC.nd rfl (by first | exact Or.inl rfl | exact Or.inr rfl))
  (xs_cons (xs_p (ds_set (i := 4) SC.nd rfl (by first | exact Or.inl rfl | exact Or.inr rfl) (dc C_inner_works hr hgd rfl (da_cons (de_ix (dv 2) (de_neg de_int)) da_nil))))
  (xs_cons (xs_expr (xc X_require_usable tk hr hgd rfl (xa_p (da_cons (de_and (dc C_is_number hr hgd rfl (da_cons (dv 3) da_nil)) (de_one (de_cmp o_lt (dv 3) (de_callB c_len rfl T.m_len PySem.boot_len (da_cons (dv 4) da_nil)) (nomark _)))) (da_cons de_str (da_cons (de_neg de_int) da_nil))))))
  (xs_one (xs_p (ds_expr (de_append (dv 2) (de_ix (dv 4) (dv 3)))))))))
  (xs_one (xs_p (ds_ret (de_frz (dv 2))))))))

theorem d_works_along {P : Program} {w : World} {K : PySem.W.Frag} {mg : Str → Option Value} {base : Heap} {k : Nat} {f : Addr} {fd : FuncData} {sp : DSp} (T : Tx P w K mg) {sp_is_number : DSp} {sp_inner_works : DSp} {sx_require_usable : DSp} (C_is_number : Callee P w K mg base k "is_number" P_is_number sp_is_number) (C_inner_works : Callee P w K mg base k "inner_works" P_inner_works sp_inner_works)  (X_require_usable : XCallee P w K mg base k "require_usable" P_require_usable sx_require_usable)   
    (F : FunD K "works_along" "works_along" (defArgs s_works_along) (defBody s_works_along) (defScope s_works_along) [] [] f fd) (len : ∀ ds G Q E, sp ds G Q E → ds.length = 2)
    (ok : ∀ ds G Q E, sp ds G Q E → (r_works_along sp_is_number sp_inner_works sx_require_usable) (fun x _ G' => E x G') { nx := fun _ G' => Q .non G', rt := Q } (startD 5 ds) G) : XFn P w K mg base (k + 1) f fd P_works_along sp :=
  xfn_of F sc_works_along len (b_works_along T C_is_number C_inner_works X_require_usable) ok

theorem k_works_along {P : Program} {w : World} {K : PySem.W.Frag} {mg : Str → Option Value} {base : Heap} {k : Nat} {f : Addr} {fd : FuncData} {sp : DSp} (T : Tx P w K mg) {sp_is_number : DSp} {sp_inner_works : DSp} {sx_require_usable : DSp} (C_is_number : Callee P w K mg base k "is_number" P_is_number sp_is_number) (C_inner_works : Callee P w K mg base k "inner_works" P_inner_works sp_inner_works)  (X_require_usable : XCallee P w K mg base k "require_usable" P_require_usable sx_require_usable)   
    (F : FunD K "works_along" "works_along" (defArgs s_works_along) (defBody s_works_along) (defScope s_works_along) [] [] f fd) (hm : mg "works_along" = some (.ref f)) (len : ∀ ds G Q E, sp ds G Q E → ds.length = 2)
    (ok : ∀ ds G Q E, sp ds G Q E → (r_works_along sp_is_number sp_inner_works sx_require_usable) (fun x _ G' => E x G') { nx := fun _ G' => Q .non G', rt := Q } (startD 5 ds) G) : XCallee P w K mg base (k + 1) "works_along" P_works_along sp :=
  xcallee_of F hm (d_works_along T C_is_number C_inner_works X_require_usable F len ok) (fun _ _ _ _ _ _ us hl => match us, hl with | [_, _], _ => rfl) (fun _ _ _ _ _ _ us hl => match us, hl with | [_, _], _ => rfl)

abbrev N_put_inner : List Str := ["work", "k", "late", "word"]
abbrev P_put_inner : List Str := ["work", "k", "late"]

theorem sc_put_inner : FnScope N_put_inner P_put_inner (defScope s_put_inner) := ⟨rfl, rfl, rfl, by decide +kernel, rfl, by decide +kernel, by decide +kernel⟩

theorem b_put_inner {P : Program} {w : World} {K : PySem.W.Frag} {mg : Str → Option Value} {base : Heap} {k : Nat} {f : Addr} (T : Tx P w K mg)    (cdv : Value) (A : Around) (out : List Env) (st : Shared) (H : Hp) (E : XK)
    (hr : Room k (A.deeper (PyProof.Rows.envOfC "put_inner" (defScope s_put_inner) st.heap.objs.size f cdv))) (hgd : (A.deeper (PyProof.Rows.envOfC "put_inner" (defScope s_put_inner) st.heap.objs.size f cdv)).guards = some []) :
    DSs (cxOf CX0 P w K mg base N_put_inner "put_inner" (defScope s_put_inner) f cdv A out st H E).nox (defBody s_put_inner) (r_put_inner) := by
  have SC := sc_put_inner
  have hu := hu_of hr
  have hu64 := hr.units
  have hu70 := hu70_of hr
  exact (ds_cons (ds_set (i := 3) SC.nd rfl (by first | exact Or.inl rfl | exact Or.inr rfl) (de_ix (dv 0) de_int))
  (ds_cons (ds_if (dt_cmp (o_eq hu64) (dv 3) de_str (nomark _))
  (ds_one (ds_ret (de_tup (da_star (de_slice (dv 0) do_none (do_some de_int)) (da_cons (dv 2) da_nil)))))
  ds_nil)
  (ds_cons (ds_if (dt_cmp (o_eq hu64) (dv 3) de_str (nomark _))
  (ds_one (ds_ret (de_if (dt_cmp (o_eq hu64) (dv 1) de_int (nomark _)) (de_tup (da_cons (dv 3) (da_cons (dv 2) (da_cons (de_ix (dv 0) de_int) da_nil)))) (de_tup (da_cons (dv 3) (da_cons (de_ix (dv 0) de_int) (da_cons (dv 2) da_nil)))))))
  ds_nil)
  (ds_one (ds_ret (de_tup (da_cons (dv 3) (da_cons (de_tup (da_star (de_slice (de_ix (dv 0) de_int) do_none (do_some (dv 1))) (da_cons (dv 2) (da_star (de_slice (de_ix (dv 0) de_int) (do_some (de_op o_add (dv 1) de_int)) do_none) da_nil)))) da_nil))))))))

theorem d_put_inner {P : Program} {w : World} {K : PySem.W.Frag} {mg : Str → Option Value} {base : Heap} {k : Nat} {f : Addr} {fd : FuncData} {sp : DSp} (T : Tx P w K mg)   
    (F : FunD K "put_inner" "put_inner" (defArgs s_put_inner) (defBody s_put_inner) (defScope s_put_inner) [] [] f fd) (len : ∀ ds G Q E, sp ds G Q E → ds.length = 3)
    (ok : ∀ ds G Q E, sp ds G Q E → (r_put_inner) { nx := fun _ G' => Q .non G', rt := Q } (startD 4 ds) G) : DFn P w K mg base (k + 1) f fd P_put_inner sp :=
  dfn_of F sc_put_inner len (b_put_inner T) ok

theorem k_put_inner {P : Program} {w : World} {K : PySem.W.Frag} {mg : Str → Option Value} {base : Heap} {k : Nat} {f : Addr} {fd : FuncData} {sp : DSp} (T : Tx P w K mg)   
    (F : FunD K "put_inner" "put_inner" (defArgs s_put_inner) (defBody s_put_inner) (defScope s_put_inner) [] [] f fd) (hm : mg "put_inner" = some (.ref f)) (len : ∀ ds G Q E, sp ds G Q E → ds.length = 3)
    (ok : ∀ ds G Q E, sp ds G Q E → (r_put_inner) { nx := fun _ G' => Q .non G', rt := Q } (startD 4 ds) G) : Callee P w K mg base (k + 1) "put_inner" P_put_inner sp :=
  callee_of F hm (d_put_inner T F len ok) (fun _ _ _ _ _ _ us hl => match us, hl with | [_, _, _], _ => rfl) (fun _ _ _ _ _ _ us hl => match us, hl with | [_, _, _], _ => rfl)

abbrev N_put_along : List Str := ["around", "path", "late", "work", "k"]
abbrev P_put_along : List Str := ["around", "path", "late"]

theorem sc_put_along : FnScope N_put_along P_put_along (defScope s_put_along) := ⟨rfl, rfl, rfl, by decide +kernel, rfl, by decide +kernel, by decide +kernel⟩

theorem b_put_along {P : Program} {w : World} {K : PySem.W.Frag} {mg : Str → Option Value} {base : Heap} {k : Nat} {f : Addr} (T : Tx P w K mg) {sp_put_inner : DSp} (C_put_inner : Callee P w K mg base k "put_inner" P_put_inner sp_put_inner)  (cdv : Value) (A : Around) (out : List Env) (st : Shared) (H : Hp) (E : XK)
    (hr : Room k (A.deeper (PyProof.Rows.envOfC "put_along" (defScope s_put_along) st.heap.objs.size f cdv))) (hgd : (A.deeper (PyProof.Rows.envOfC "put_along" (defScope s_put_along) st.heap.objs.size f cdv)).guards = some []) :
    DSs (cxOf CX0 P w K mg base N_put_along "put_along" (defScope s_put_along) f cdv A out st H E).nox (defBody s_put_along) (r_put_along sp_put_inner) := by
  have SC := sc_put_along
  have hu := hu_of hr
  have hu64 := hr.units
  have hu70 := hu70_of hr
  exact (ds_cons (ds_for PassesOwn.never rfl (di_zipM rfl T.m_zip (da_cons (de_frz (de_rev (dv 0))) (da_cons (de_rev (dv 1)) da_nil))) (dg_tup rfl (dgs_cons (dg_name (i := 3) SC.nd rfl (by first | exact Or.inl rfl | exact Or.inr rfl)) (dgs_cons (dg_name (i := 4) SC.nd rfl (by first | exact Or.inl rfl | exact Or.inr rfl)) dgs_nil)))
  (ds_one (ds_set (i := 2) SC.nd rfl (by first | exact Or.inl rfl | exact Or.inr rfl) (dc C_put_inner hr hgd rfl (da_cons (dv 3) (da_cons (dv 4) (da_cons (dv 2) da_nil)))))))
  (ds_one (ds_ret (dv 2))))

theorem d_put_along {P : Program} {w : World} {K : PySem.W.Frag} {mg : Str → Option Value} {base : Heap} {k : Nat} {f : Addr} {fd : FuncData} {sp : DSp} (T : Tx P w K mg) {sp_put_inner : DSp} (C_put_inner : Callee P w K mg base k "put_inner" P_put_inner sp_put_inner) 
    (F : FunD K "put_along" "put_along" (defArgs s_put_along) (defBody s_put_along) (defScope s_put_along) [] [] f fd) (len : ∀ ds G Q E, sp ds G Q E → ds.length = 3)
    (ok : ∀ ds G Q E, sp ds G Q E → (r_put_along sp_put_inner) { nx := fun _ G' => Q .non G', rt := Q } (startD 5 ds) G) : DFn P w K mg base (k + 1) f fd P_put_along sp :=
  dfn_of F sc_put_along len (b_put_along T C_put_inner) ok

theorem k_put_along {P : Program} {w : World} {K : PySem.W.Frag} {mg : Str → Option Value} {base : Heap} {k : Nat} {f : Addr} {fd : FuncData} {sp : DSp} (T : Tx P w K mg) {sp_put_inner : DSp} (C_put_inner : Callee P w K mg base k "put_inner" P_put_inner sp_put_inner) 
    (F : FunD K "put_along" "put_along" (defArgs s_put_along) (defBody s_put_along) (defScope s_put_along) [] [] f fd) (hm : mg "put_along" = some (.ref f)) (len : ∀ ds G Q E, sp ds G Q E → ds.length = 3)
    (ok : ∀ ds G Q E, sp ds G Q E → (r_put_along sp_put_inner) { nx := fun _ G' => Q .non G', rt := Q } (startD 5 ds) G) : Callee P w K mg base (k + 1) "put_along" P_put_along sp :=
  callee_of F hm (d_put_along T C_put_inner F len ok) (fun _ _ _ _ _ _ us hl => match us, hl with | [_, _, _], _ => rfl) (fun _ _ _ _ _ _ us hl => match us, hl with | [_, _, _], _ => rfl)

abbrev N_loops_of : List Str := ["work", "path", "part"]
abbrev P_loops_of : List Str := ["work"]

theorem sc_loops_of : FnScope N_loops_of P_loops_of (defScope s_loops_of) := ⟨rfl, rfl, rfl, by decide +kernel, rfl, by decide +kernel, by decide +kernel⟩

theorem b_loops_of {P : Program} {w : World} {K : PySem.W.Frag} {mg : Str → Option Value} {base : Heap} {k : Nat} {f : Addr} (T : Tx P w K mg) {sp_all_pairs : DSp} (C_all_pairs : Callee P w K mg base k "all_pairs" P_all_pairs sp_all_pairs)  (cdv : Value) (A : Around) (out : List Env) (st : Shared) (H : Hp) (E : XK)
    (hr : Room k (A.deeper (PyProof.Rows.envOfC "loops_of" (defScope s_loops_of) st.heap.objs.size f cdv))) (hgd : (A.deeper (PyProof.Rows.envOfC "loops_of" (defScope s_loops_of) st.heap.objs.size f cdv)).guards = some []) :
    DSs (cxOf CX0 P w K mg base N_loops_of "loops_of" (defScope s_loops_of) f cdv A out st H E).nox (defBody s_loops_of) (r_loops_of sp_all_pairs) := by
  have SC := sc_loops_of
  have hu := hu_of hr
  have hu64 := hr.units
  have hu70 := hu70_of hr
  exact (ds_one (ds_ret (de_callTy c_tuple rfl T.m_tuple (by decide +kernel) (da_cons (de_frz (de_lc (own := [("path", 1), ("part", 2)]) (ct := (.tup [1, 2])) rfl SC.nd (di_seq (dc C_all_pairs hr hgd rfl (da_cons (dv 0) da_nil))) (blkOk_by (by show blkC N_loops_of (defScope s_loops_of) _ _ = true; decide +kernel)) (by decide) (fun _ _ _ _ _ => pg_tup rfl (pgs_cons (pg_name (i := 1) SC.nd rfl (Or.inl rfl)) (pgs_cons (pg_name (i := 2) SC.nd rfl (Or.inl rfl)) pgs_nil))) (fun _ _ _ _ _ => (dts_one (dt_cmp o_in (de_ix (dv 2) de_int) (de_glob rfl T.c_COUNTED) rfl))) (fun _ _ _ _ _ => (dv 1)))) da_nil))))

theorem d_loops_of {P : Program} {w : World} {K : PySem.W.Frag} {mg : Str → Option Value} {base : Heap} {k : Nat} {f : Addr} {fd : FuncData} {sp : DSp} (T : Tx P w K mg) {sp_all_pairs : DSp} (C_all_pairs : Callee P w K mg base k "all_pairs" P_all_pairs sp_all_pairs) 
    (F : FunD K "loops_of" "loops_of" (defArgs s_loops_of) (defBody s_loops_of) (defScope s_loops_of) [] [] f fd) (len : ∀ ds G Q E, sp ds G Q E → ds.length = 1)
    (ok : ∀ ds G Q E, sp ds G Q E → (r_loops_of sp_all_pairs) { nx := fun _ G' => Q .non G', rt := Q } (startD 3 ds) G) : DFn P w K mg base (k + 1) f fd P_loops_of sp :=
  dfn_of F sc_loops_of len (b_loops_of T C_all_pairs) ok

theorem k_loops_of {P : Program} {w : World} {K : PySem.W.Frag} {mg : Str → Option Value} {base : Heap} {k : Nat} {f : Addr} {fd : FuncData} {sp : DSp} (T : Tx P w K mg) {sp_all_pairs : DSp} (C_all_pairs : Callee P w K mg base k "all_pairs" P_all_pairs sp_all_pairs) 
    (F : FunD K "loops_of" "loops_of" (defArgs s_loops_of) (defBody s_loops_of) (defScope s_loops_of) [] [] f fd) (hm : mg "loops_of" = some (.ref f)) (len : ∀ ds G Q E, sp ds G Q E → ds.length = 1)
    (ok : ∀ ds G Q E, sp ds G Q E → (r_loops_of sp_all_pairs) { nx := fun _ G' => Q .non G', rt := Q } (startD 3 ds) G) : Callee P w K mg base (k + 1) "loops_of" P_loops_of sp :=
  callee_of F hm (d_loops_of T C_all_pairs F len ok) (fun _ _ _ _ _ _ us hl => match us, hl with | [_], _ => rfl) (fun _ _ _ _ _ _ us hl => match us, hl with | [_], _ => rfl)

abbrev N_counted_along : List Str := ["work", "path", "found"]
abbrev P_counted_along : List Str := ["work", "path"]

theorem sc_counted_along : FnScope N_counted_along P_counted_along (defScope s_counted_along) := ⟨rfl, rfl, rfl, by decide +kernel, rfl, by decide +kernel, by decide +kernel⟩

theorem b_counted_along {P : Program} {w : World} {K : PySem.W.Frag} {mg : Str → Option Value} {base : Heap} {k : Nat} {f : Addr} (T : Tx P w K mg)  {sx_require_usable : DSp} {sx_works_along : DSp}   (X_require_usable : XCallee P w K mg base k "require_usable" P_require_usable sx_require_usable) (X_works_along : XCallee P w K mg base k "works_along" P_works_along sx_works_along)    (cdv : Value) (A : Around) (out : List Env) (st : Shared) (H : Hp) (E : XK)
    (hr : Room k (A.deeper (PyProof.Rows.envOfC "counted_along" (defScope s_counted_along) st.heap.objs.size f cdv))) (hgd : (A.deeper (PyProof.Rows.envOfC "counted_along" (defScope s_counted_along) st.heap.objs.size f cdv)).guards = some []) (tk : Takes (cxOf (L2.CX P w) P w K mg base N_counted_along "counted_along" (defScope s_counted_along) f cdv A out st H E) (fun c d _ H' => E c d H')) (hpo : PassesOwn (model P w) (A.deeper (PyProof.Rows.envOfC "counted_along" (defScope s_counted_along) st.heap.objs.size f cdv)) (PyProof.Rows.envOfC "counted_along" (defScope s_counted_along) st.heap.objs.size f cdv) (cxOf (L2.CX P w) P w K mg base N_counted_along "counted_along" (defScope s_counted_along) f cdv A out st H E).xe) :
    XSs (cxOf (L2.CX P w) P w K mg base N_counted_along "counted_along" (defScope s_counted_along) f cdv A out st H E) (fun c d _ H' => E c d H') (defBody s_counted_along) (r_counted_along sx_require_usable sx_works_along) := by
  have SC := sc_counted_along
  have hu := hu_of hr
  have hu64 := hr.units
  have hu70 := hu70_of hr
  exact (xs_cons (xs_set (i := 2) SC.nd rfl (by first | exact Or.inl rfl | exact Or.inr rfl) (xc X_works_along tk hr hgd rfl (xa_p (da_cons (dv 0) (da_cons (dv 1) da_nil)))))
  (xs_cons (xs_expr (xc X_require_usable tk hr hgd rfl (xa_p (da_cons (de_cmp o_in (de_ix (de_ix (dv 2) (de_neg de_int)) de_int) (de_glob rfl T.c_COUNTED) rfl) (da_cons de_str (da_cons (de_neg de_int) da_nil))))))
  (xs_one (xs_p (ds_ret (dv 2))))))

theorem d_counted_along {P : Program} {w : World} {K : PySem.W.Frag} {mg : Str → Option Value} {base : Heap} {k : Nat} {f : Addr} {fd : FuncData} {sp : DSp} (T : Tx P w K mg)  {sx_require_usable : DSp} {sx_works_along : DSp}   (X_require_usable : XCallee P w K mg base k "require_usable" P_require_usable sx_require_usable) (X_works_along : XCallee P w K mg base k "works_along" P_works_along sx_works_along)   
    (F : FunD K "counted_along" "counted_along" (defArgs s_counted_along) (defBody s_counted_along) (defScope s_counted_along) [] [] f fd) (len : ∀ ds G Q E, sp ds G Q E → ds.length = 2)
    (ok : ∀ ds G Q E, sp ds G Q E → (r_counted_along sx_require_usable sx_works_along) (fun x _ G' => E x G') { nx := fun _ G' => Q .non G', rt := Q } (startD 3 ds) G) : XFn P w K mg base (k + 1) f fd P_counted_along sp :=
  xfn_of F sc_counted_along len (b_counted_along T X_require_usable X_works_along) ok

theorem k_counted_along {P : Program} {w : World} {K : PySem.W.Frag} {mg : Str → Option Value} {base : Heap} {k : Nat} {f : Addr} {fd : FuncData} {sp : DSp} (T : Tx P w K mg)  {sx_require_usable : DSp} {sx_works_along : DSp}   (X_require_usable : XCallee P w K mg base k "require_usable" P_require_usable sx_require_usable) (X_works_along : XCallee P w K mg base k "works_along" P_works_along sx_works_along)   
    (F : FunD K "counted_along" "counted_along" (defArgs s_counted_along) (defBody s_counted_along) (defScope s_counted_along) [] [] f fd) (hm : mg "counted_along" = some (.ref f)) (len : ∀ ds G Q E, sp ds G Q E → ds.length = 2)
    (ok : ∀ ds G Q E, sp ds G Q E → (r_counted_along sx_require_usable sx_works_along) (fun x _ G' => E x G') { nx := fun _ G' => Q .non G', rt := Q } (startD 3 ds) G) : XCallee P w K mg base (k + 1) "counted_along" P_counted_along sp :=
  xcallee_of F hm (d_counted_along T X_require_usable X_works_along F len ok) (fun _ _ _ _ _ _ us hl => match us, hl with | [_, _], _ => rfl) (fun _ _ _ _ _ _ us hl => match us, hl with | [_, _], _ => rfl)

abbrev N_bounds_of : List Str := ["work", "path", "part"]
abbrev P_bounds_of : List Str := ["work", "path"]

theorem sc_bounds_of : FnScope N_bounds_of P_bounds_of (defScope s_bounds_of) := ⟨rfl, rfl, rfl, by decide +kernel, rfl, by decide +kernel, by decide +kernel⟩

theorem b_bounds_of {P : Program} {w : World} {K : PySem.W.Frag} {mg : Str → Option Value} {base : Heap} {k : Nat} {f : Addr} (T : Tx P w K mg)  {sx_counted_along : DSp}   (X_counted_along : XCallee P w K mg base k "counted_along" P_counted_along sx_counted_along)    (cdv : Value) (A : Around) (out : List Env) (st : Shared) (H : Hp) (E : XK)
    (hr : Room k (A.deeper (PyProof.Rows.envOfC "bounds_of" (defScope s_bounds_of) st.heap.objs.size f cdv))) (hgd : (A.deeper (PyProof.Rows.envOfC "bounds_of" (defScope s_bounds_of) st.heap.objs.size f cdv)).guards = some []) (tk : Takes (cxOf (L2.CX P w) P w K mg base N_bounds_of "bounds_of" (defScope s_bounds_of) f cdv A out st H E) (fun c d _ H' => E c d H')) (hpo : PassesOwn (model P w) (A.deeper (PyProof.Rows.envOfC "bounds_of" (defScope s_bounds_of) st.heap.objs.size f cdv)) (PyProof.Rows.envOfC "bounds_of" (defScope s_bounds_of) st.heap.objs.size f cdv) (cxOf (L2.CX P w) P w K mg base N_bounds_of "bounds_of" (defScope s_bounds_of) f cdv A out st H E).xe) :
    XSs (cxOf (L2.CX P w) P w K mg base N_bounds_of "bounds_of" (defScope s_bounds_of) f cdv A out st H E) (fun c d _ H' => E c d H') (defBody s_bounds_of) (r_bounds_of sx_counted_along) := by
  have SC := sc_bounds_of
  have hu := hu_of hr
  have hu64 := hr.units
  have hu70 := hu70_of hr
  exact (xs_cons (xs_set (i := 2) SC.nd rfl (by first | exact Or.inl rfl | exact Or.inr rfl) (xe_ix (xc X_counted_along tk hr hgd rfl (xa_p (da_cons (dv 0) (da_cons (dv 1) da_nil)))) (xe_p (de_neg de_int))))
  (xs_one (xs_p (ds_ret (de_tup (da_cons (de_ix (dv 2) de_int) (da_cons (de_ix (dv 2) de_int) da_nil)))))))

theorem d_bounds_of {P : Program} {w : World} {K : PySem.W.Frag} {mg : Str → Option Value} {base : Heap} {k : Nat} {f : Addr} {fd : FuncData} {sp : DSp} (T : Tx P w K mg)  {sx_counted_along : DSp}   (X_counted_along : XCallee P w K mg base k "counted_along" P_counted_along sx_counted_along)   
    (F : FunD K "bounds_of" "bounds_of" (defArgs s_bounds_of) (defBody s_bounds_of) (defScope s_bounds_of) [] [] f fd) (len : ∀ ds G Q E, sp ds G Q E → ds.length = 2)
    (ok : ∀ ds G Q E, sp ds G Q E → (r_bounds_of sx_counted_along) (fun x _ G' => E x G') { nx := fun _ G' => Q .non G', rt := Q } (startD 3 ds) G) : XFn P w K mg base (k + 1) f fd P_bounds_of sp :=
  xfn_of F sc_bounds_of len (b_bounds_of T X_counted_along) ok

theorem k_bounds_of {P : Program} {w : World} {K : PySem.W.Frag} {mg : Str → Option Value} {base : Heap} {k : Nat} {f : Addr} {fd : FuncData} {sp : DSp} (T : Tx P w K mg)  {sx_counted_along : DSp}   (X_counted_along : XCallee P w K mg base k "counted_along" P_counted_along sx_counted_along)   
    (F : FunD K "bounds_of" "bounds_of" (defArgs s_bounds_of) (defBody s_bounds_of) (defScope s_bounds_of) [] [] f fd) (hm : mg "bounds_of" = some (.ref f)) (len : ∀ ds G Q E, sp ds G Q E → ds.length = 2)
    (ok : ∀ ds G Q E, sp ds G Q E → (r_bounds_of sx_counted_along) (fun x _ G' => E x G') { nx := fun _ G' => Q .non G', rt := Q } (startD 3 ds) G) : XCallee P w K mg base (k + 1) "bounds_of" P_bounds_of sp :=
  xcallee_of F hm (d_bounds_of T X_counted_along F len ok) (fun _ _ _ _ _ _ us hl => match us, hl with | [_, _], _ => rfl) (fun _ _ _ _ _ _ us hl => match us, hl with | [_, _], _ => rfl)

abbrev N_with_told : List Str := ["work", "path", "told", "found", "part"]
abbrev P_with_told : List Str := ["work", "path", "told"]

theorem sc_with_told : FnScope N_with_told P_with_told (defScope s_with_told) := ⟨rfl, rfl, rfl, by decide +kernel, rfl, by decide +kernel, by decide +kernel⟩

theorem b_with_told {P : Program} {w : World} {K : PySem.W.Frag} {mg : Str → Option Value} {base : Heap} {k : Nat} {f : Addr} (T : Tx P w K mg) {sp_put_along : DSp} {sx_counted_along : DSp} (C_put_along : Callee P w K mg base k "put_along" P_put_along sp_put_along)  (X_counted_along : XCallee P w K mg base k "counted_along" P_counted_along sx_counted_along)    (cdv : Value) (A : Around) (out : List Env) (st : Shared) (H : Hp) (E : XK)
    (hr : Room k (A.deeper (PyProof.Rows.envOfC "with_told" (defScope s_with_told) st.heap.objs.size f cdv))) (hgd : (A.deeper (PyProof.Rows.envOfC "with_told" (defScope s_with_told) st.heap.objs.size f cdv)).guards = some []) (tk : Takes (cxOf (L2.CX P w) P w K mg base N_with_told "with_told" (defScope s_with_told) f cdv A out st H E) (fun c d _ H' => E c d H')) (hpo : PassesOwn (model P w) (A.deeper (PyProof.Rows.envOfC "with_told" (defScope s_with_told) st.heap.objs.size f cdv)) (PyProof.Rows.envOfC "with_told" (defScope s_with_told) st.heap.objs.size f cdv) (cxOf (L2.CX P w) P w K mg base N_with_told "with_told" (defScope s_with_told) f cdv A out st H E).xe) :
    XSs (cxOf (L2.CX P w) P w K mg base N_with_told "with_told" (defScope s_with_told) f cdv A out st H E) (fun c d _ H' => E c d H') (defBody s_with_told) (r_with_told sp_put_along sx_counted_along) := by
  have SC := sc_with_told
  have hu := hu_of hr
  have hu64 := hr.units
  have hu70 := hu70_of hr
  exact (xs_cons (xs_set (i := 3) SC.nd rfl (by first | exact Or.inl rfl | exact Or.inr rfl) (xc X_counted_along tk hr hgd rfl (xa_p (da_cons (dv 0) (da_cons (dv 1) da_nil)))))
  (xs_cons (xs_p (ds_set (i := 4) SC.nd rfl (by first | exact Or.inl rfl | exact Or.inr rfl) (de_ix (dv 3) (de_neg de_int))))
  (xs_one (xs_p (ds_ret (dc C_put_along hr hgd rfl (da_cons (de_frz (de_slice (dv 3) do_none (do_some (de_neg de_int)))) (da_cons (dv 1) (da_cons (de_tup (da_star (de_slice (dv 4) do_none (do_some de_int)) (da_cons (dv 2) (da_star (de_slice (dv 4) (do_some de_int) do_none) da_nil)))) da_nil)))))))))

theorem d_with_told {P : Program} {w : World} {K : PySem.W.Frag} {mg : Str → Option Value} {base : Heap} {k : Nat} {f : Addr} {fd : FuncData} {sp : DSp} (T : Tx P w K mg) {sp_put_along : DSp} {sx_counted_along : DSp} (C_put_along : Callee P w K mg base k "put_along" P_put_along sp_put_along)  (X_counted_along : XCallee P w K mg base k "counted_along" P_counted_along sx_counted_along)   
    (F : FunD K "with_told" "with_told" (defArgs s_with_told) (defBody s_with_told) (defScope s_with_told) [] [] f fd) (len : ∀ ds G Q E, sp ds G Q E → ds.length = 3)
    (ok : ∀ ds G Q E, sp ds G Q E → (r_with_told sp_put_along sx_counted_along) (fun x _ G' => E x G') { nx := fun _ G' => Q .non G', rt := Q } (startD 5 ds) G) : XFn P w K mg base (k + 1) f fd P_with_told sp :=
  xfn_of F sc_with_told len (b_with_told T C_put_along X_counted_along) ok

theorem k_with_told {P : Program} {w : World} {K : PySem.W.Frag} {mg : Str → Option Value} {base : Heap} {k : Nat} {f : Addr} {fd : FuncData} {sp : DSp} (T : Tx P w K mg) {sp_put_along : DSp} {sx_counted_along : DSp} (C_put_along : Callee P w K mg base k "put_along" P_put_along sp_put_along)  (X_counted_along : XCallee P w K mg base k "counted_along" P_counted_along sx_counted_along)   
    (F : FunD K "with_told" "with_told" (defArgs s_with_told) (defBody s_with_told) (defScope s_with_told) [] [] f fd) (hm : mg "with_told" = some (.ref f)) (len : ∀ ds G Q E, sp ds G Q E → ds.length = 3)
    (ok : ∀ ds G Q E, sp ds G Q E → (r_with_told sp_put_along sx_counted_along) (fun x _ G' => E x G') { nx := fun _ G' => Q .non G', rt := Q } (startD 5 ds) G) : XCallee P w K mg base (k + 1) "with_told" P_with_told sp :=
  xcallee_of F hm (d_with_told T C_put_along X_counted_along F len ok) (fun _ _ _ _ _ _ us hl => match us, hl with | [_, _, _], _ => rfl) (fun _ _ _ _ _ _ us hl => match us, hl with | [_, _, _], _ => rfl)

abbrev N_told_first : List Str := ["work", "path"]
abbrev P_told_first : List Str := ["work", "path"]

theorem sc_told_first : FnScope N_told_first P_told_first (defScope s_told_first) := ⟨rfl, rfl, rfl, by decide +kernel, rfl, by decide +kernel, by decide +kernel⟩

theorem b_told_first {P : Program} {w : World} {K : PySem.W.Frag} {mg : Str → Option Value} {base : Heap} {k : Nat} {f : Addr} (T : Tx P w K mg)  {sx_with_told : DSp}   (X_with_told : XCallee P w K mg base k "with_told" P_with_told sx_with_told)    (cdv : Value) (A : Around) (out : List Env) (st : Shared) (H : Hp) (E : XK)
    (hr : Room k (A.deeper (PyProof.Rows.envOfC "told_first" (defScope s_told_first) st.heap.objs.size f cdv))) (hgd : (A.deeper (PyProof.Rows.envOfC "told_first" (defScope s_told_first) st.heap.objs.size f cdv)).guards = some []) (tk : Takes (cxOf (L2.CX P w) P w K mg base N_told_first "told_first" (defScope s_told_first) f cdv A out st H E) (fun c d _ H' => E c d H')) (hpo : PassesOwn (model P w) (A.deeper (PyProof.Rows.envOfC "told_first" (defScope s_told_first) st.heap.objs.size f cdv)) (PyProof.Rows.envOfC "told_first" (defScope s_told_first) st.heap.objs.size f cdv) (cxOf (L2.CX P w) P w K mg base N_told_first "told_first" (defScope s_told_first) f cdv A out st H E).xe) :
    XSs (cxOf (L2.CX P w) P w K mg base N_told_first "told_first" (defScope s_told_first) f cdv A out st H E) (fun c d _ H' => E c d H') (defBody s_told_first) (r_told_first sx_with_told) := by
  have SC := sc_told_first
  have hu := hu_of hr
  have hu64 := hr.units
  have hu70 := hu70_of hr
  exact (xs_one (xs_ret (xc X_with_told tk hr hgd rfl (xa_p (da_cons (dv 0) (da_cons (dv 1) (da_cons de_bl da_nil)))))))

theorem d_told_first {P : Program} {w : World} {K : PySem.W.Frag} {mg : Str → Option Value} {base : Heap} {k : Nat} {f : Addr} {fd : FuncData} {sp : DSp} (T : Tx P w K mg)  {sx_with_told : DSp}   (X_with_told : XCallee P w K mg base k "with_told" P_with_told sx_with_told)   
    (F : FunD K "told_first" "told_first" (defArgs s_told_first) (defBody s_told_first) (defScope s_told_first) [] [] f fd) (len : ∀ ds G Q E, sp ds G Q E → ds.length = 2)
    (ok : ∀ ds G Q E, sp ds G Q E → (r_told_first sx_with_told) (fun x _ G' => E x G') { nx := fun _ G' => Q .non G', rt := Q } (startD 2 ds) G) : XFn P w K mg base (k + 1) f fd P_told_first sp :=
  xfn_of F sc_told_first len (b_told_first T X_with_told) ok

theorem k_told_first {P : Program} {w : World} {K : PySem.W.Frag} {mg : Str → Option Value} {base : Heap} {k : Nat} {f : Addr} {fd : FuncData} {sp : DSp} (T : Tx P w K mg)  {sx_with_told : DSp}   (X_with_told : XCallee P w K mg base k "with_told" P_with_told sx_with_told)   
    (F : FunD K "told_first" "told_first" (defArgs s_told_first) (defBody s_told_first) (defScope s_told_first) [] [] f fd) (hm : mg "told_first" = some (.ref f)) (len : ∀ ds G Q E, sp ds G Q E → ds.length = 2)
    (ok : ∀ ds G Q E, sp ds G Q E → (r_told_first sx_with_told) (fun x _ G' => E x G') { nx := fun _ G' => Q .non G', rt := Q } (startD 2 ds) G) : XCallee P w K mg base (k + 1) "told_first" P_told_first sp :=
  xcallee_of F hm (d_told_first T X_with_told F len ok) (fun _ _ _ _ _ _ us hl => match us, hl with | [_, _], _ => rfl) (fun _ _ _ _ _ _ us hl => match us, hl with | [_, _], _ => rfl)

abbrev N_told_last : List Str := ["work", "path"]
abbrev P_told_last : List Str := ["work", "path"]

theorem sc_told_last : FnScope N_told_last P_told_last (defScope s_told_last) := ⟨rfl, rfl, rfl, by decide +kernel, rfl, by decide +kernel, by decide +kernel⟩

theorem b_told_last {P : Program} {w : World} {K : PySem.W.Frag} {mg : Str → Option Value} {base : Heap} {k : Nat} {f : Addr} (T : Tx P w K mg)  {sx_with_told : DSp}   (X_with_told : XCallee P w K mg base k "with_told" P_with_told sx_with_told)    (cdv : Value) (A : Around) (out : List Env) (st : Shared) (H : Hp) (E : XK)
    (hr : Room k (A.deeper (PyProof.Rows.envOfC "told_last" (defScope s_told_last) st.heap.objs.size f cdv))) (hgd : (A.deeper (PyProof.Rows.envOfC "told_last" (defScope s_told_last) st.heap.objs.size f cdv)).guards = some []) (tk : Takes (cxOf (L2.CX P w) P w K mg base N_told_last "told_last" (defScope s_told_last) f cdv A out st H E) (fun c d _ H' => E c d H')) (hpo : PassesOwn (model P w) (A.deeper (PyProof.Rows.envOfC "told_last" (defScope s_told_last) st.heap.objs.size f cdv)) (PyProof.Rows.envOfC "told_last" (defScope s_told_last) st.heap.objs.size f cdv) (cxOf (L2.CX P w) P w K mg base N_told_last "told_last" (defScope s_told_last) f cdv A out st H E).xe) :
    XSs (cxOf (L2.CX P w) P w K mg base N_told_last "told_last" (defScope s_told_last) f cdv A out st H E) (fun c d _ H' => E c d H') (defBody s_told_last) (r_told_last sx_with_told) := by
  have SC := sc_told_last
  have hu := hu_of hr
  have hu64 := hr.units
  have hu70 := hu70_of hr
  exact (xs_one (xs_ret (xc X_with_told tk hr hgd rfl (xa_p (da_cons (dv 0) (da_cons (dv 1) (da_cons de_bl da_nil)))))))

theorem d_told_last {P : Program} {w : World} {K : PySem.W.Frag} {mg : Str → Option Value} {base : Heap} {k : Nat} {f : Addr} {fd : FuncData} {sp : DSp} (T : Tx P w K mg)  {sx_with_told : DSp}   (X_with_told : XCallee P w K mg base k "with_told" P_with_told sx_with_told)   
    (F : FunD K "told_last" "told_last" (defArgs s_told_last) (defBody s_told_last) (defScope s_told_last) [] [] f fd) (len : ∀ ds G Q E, sp ds G Q E → ds.length = 2)
    (ok : ∀ ds G Q E, sp ds G Q E → (r_told_last sx_with_told) (fun x _ G' => E x G') { nx := fun _ G' => Q .non G', rt := Q } (startD 2 ds) G) : XFn P w K mg base (k + 1) f fd P_told_last sp :=
  xfn_of F sc_told_last len (b_told_last T X_with_told) ok

theorem k_told_last {P : Program} {w : World} {K : PySem.W.Frag} {mg : Str → Option Value} {base : Heap} {k : Nat} {f : Addr} {fd : FuncData} {sp : DSp} (T : Tx P w K mg)  {sx_with_told : DSp}   (X_with_told : XCallee P w K mg base k "with_told" P_with_told sx_with_told)   
    (F : FunD K "told_last" "told_last" (defArgs s_told_last) (defBody s_told_last) (defScope s_told_last) [] [] f fd) (hm : mg "told_last" = some (.ref f)) (len : ∀ ds G Q E, sp ds G Q E → ds.length = 2)
    (ok : ∀ ds G Q E, sp ds G Q E → (r_told_last sx_with_told) (fun x _ G' => E x G') { nx := fun _ G' => Q .non G', rt := Q } (startD 2 ds) G) : XCallee P w K mg base (k + 1) "told_last" P_told_last sp :=
  xcallee_of F hm (d_told_last T X_with_told F len ok) (fun _ _ _ _ _ _ us hl => match us, hl with | [_, _], _ => rfl) (fun _ _ _ _ _ _ us hl => match us, hl with | [_, _], _ => rfl)

abbrev N_with_bounds : List Str := ["work", "path", "least", "most", "found", "part"]
abbrev P_with_bounds : List Str := ["work", "path", "least", "most"]

theorem sc_with_bounds : FnScope N_with_bounds P_with_bounds (defScope s_with_bounds) := ⟨rfl, rfl, rfl, by decide +kernel, rfl, by decide +kernel, by decide +kernel⟩

theorem b_with_bounds {P : Program} {w : World} {K : PySem.W.Frag} {mg : Str → Option Value} {base : Heap} {k : Nat} {f : Addr} (T : Tx P w K mg) {sp_put_along : DSp} {sp_is_number : DSp} {sx_require_usable : DSp} {sx_counted_along : DSp} (C_put_along : Callee P w K mg base k "put_along" P_put_along sp_put_along) (C_is_number : Callee P w K mg base k "is_number" P_is_number sp_is_number)  (X_require_usable : XCallee P w K mg base k "require_usable" P_require_usable sx_require_usable) (X_counted_along : XCallee P w K mg base k "counted_along" P_counted_along sx_counted_along)    (cdv : Value) (A : Around) (out : List Env) (st : Shared) (H : Hp) (E : XK)
    (hr : Room k (A.deeper (PyProof.Rows.envOfC "with_bounds" (defScope s_with_bounds) st.heap.objs.size f cdv))) (hgd : (A.deeper (PyProof.Rows.envOfC "with_bounds" (defScope s_with_bounds) st.heap.objs.size f cdv)).guards = some []) (tk : Takes (cxOf (L2.CX P w) P w K mg base N_with_bounds "with_bounds" (defScope s_with_bounds) f cdv A out st H E) (fun c d _ H' => E c d H')) (hpo : PassesOwn (model P w) (A.deeper (PyProof.Rows.envOfC "with_bounds" (defScope s_with_bounds) st.heap.objs.size f cdv)) (PyProof.Rows.envOfC "with_bounds" (defScope s_with_bounds) st.heap.objs.size f cdv) (cxOf (L2.CX P w) P w K mg base N_with_bounds "with_bounds" (defScope s_with_bounds) f cdv A out st H E).xe) :
    XSs (cxOf (L2.CX P w) P w K mg base N_with_bounds "with_bounds" (defScope s_with_bounds) f cdv A out st H E) (fun c d _ H' => E c d H') (defBody s_with_bounds) (r_with_bounds sp_put_along sp_is_number sx_require_usable sx_counted_along) := by
  have SC := sc_with_bounds
  have hu := hu_of hr
  have hu64 := hr.units
  have hu70 := hu70_of hr
  exact (xs_cons (xs_set (i := 4) SC.nd rfl (by first | exact Or.inl rfl | exact Or.inr rfl) (xc X_counted_along tk hr hgd rfl (xa_p (da_cons (dv 0) (da_cons (dv 1) da_nil)))))
  (xs_cons (xs_expr (xc X_require_usable tk hr hgd rfl (xa_p (da_cons (dc C_is_number hr hgd rfl (da_cons (dv 2) da_nil)) (da_cons de_str (da_cons (de_neg de_int) da_nil))))))
  (xs_cons (xs_expr (xc X_require_usable tk hr hgd rfl (xa_p (da_cons (de_and (dc C_is_number hr hgd rfl (da_cons (dv 3) da_nil)) (de_one (de_cmp o_le (dv 2) (dv 3) (nomark _)))) (da_cons de_str (da_cons (de_neg de_int) da_nil))))))
  (xs_cons (xs_p (ds_set (i := 5) SC.nd rfl (by first | exact Or.inl rfl | exact Or.inr rfl) (de_ix (dv 4) (de_neg de_int))))
  (xs_one (xs_p (ds_ret (dc C_put_along hr hgd rfl (da_cons (de_frz (de_slice (dv 4) do_none (do_some (de_neg de_int)))) (da_cons (dv 1) (da_cons (de_tup (da_cons (de_ix (dv 5) de_int) (da_cons (dv 2) (da_cons (dv 3) (da_star (de_slice (dv 5) (do_some de_int) do_none) da_nil))))) da_nil)))))))))))

theorem d_with_bounds {P : Program} {w : World} {K : PySem.W.Frag} {mg : Str → Option Value} {base : Heap} {k : Nat} {f : Addr} {fd : FuncData} {sp : DSp} (T : Tx P w K mg) {sp_put_along : DSp} {sp_is_number : DSp} {sx_require_usable : DSp} {sx_counted_along : DSp} (C_put_along : Callee P w K mg base k "put_along" P_put_along sp_put_along) (C_is_number : Callee P w K mg base k "is_number" P_is_number sp_is_number)  (X_require_usable : XCallee P w K mg base k "require_usable" P_require_usable sx_require_usable) (X_counted_along : XCallee P w K mg base k "counted_along" P_counted_along sx_counted_along)   
    (F : FunD K "with_bounds" "with_bounds" (defArgs s_with_bounds) (defBody s_with_bounds) (defScope s_with_bounds) [] [] f fd) (len : ∀ ds G Q E, sp ds G Q E → ds.length = 4)
    (ok : ∀ ds G Q E, sp ds G Q E → (r_with_bounds sp_put_along sp_is_number sx_require_usable sx_counted_along) (fun x _ G' => E x G') { nx := fun _ G' => Q .non G', rt := Q } (startD 6 ds) G) : XFn P w K mg base (k + 1) f fd P_with_bounds sp :=
  xfn_of F sc_with_bounds len (b_with_bounds T C_put_along C_is_number X_require_usable X_counted_along) ok

theorem k_with_bounds {P : Program} {w : World} {K : PySem.W.Frag} {mg : Str → Option Value} {base : Heap} {k : Nat} {f : Addr} {fd : FuncData} {sp : DSp} (T : Tx P w K mg) {sp_put_along : DSp} {sp_is_number : DSp} {sx_require_usable : DSp} {sx_counted_along : DSp} (C_put_along : Callee P w K mg base k "put_along" P_put_along sp_put_along) (C_is_number : Callee P w K mg base k "is_number" P_is_number sp_is_number)  (X_require_usable : XCallee P w K mg base k "require_usable" P_require_usable sx_require_usable) (X_counted_along : XCallee P w K mg base k "counted_along" P_counted_along sx_counted_along)   
    (F : FunD K "with_bounds" "with_bounds" (defArgs s_with_bounds) (defBody s_with_bounds) (defScope s_with_bounds) [] [] f fd) (hm : mg "with_bounds" = some (.ref f)) (len : ∀ ds G Q E, sp ds G Q E → ds.length = 4)
    (ok : ∀ ds G Q E, sp ds G Q E → (r_with_bounds sp_put_along sp_is_number sx_require_usable sx_counted_along) (fun x _ G' => E x G') { nx := fun _ G' => Q .non G', rt := Q } (startD 6 ds) G) : XCallee P w K mg base (k + 1) "with_bounds" P_with_bounds sp :=
  xcallee_of F hm (d_with_bounds T C_put_along C_is_number X_require_usable X_counted_along F len ok) (fun _ _ _ _ _ _ us hl => match us, hl with | [_, _, _, _], _ => rfl) (fun _ _ _ _ _ _ us hl => match us, hl with | [_, _, _, _], _ => rfl)

abbrev N_is_path_of : List Str := ["paths", "thing", "k"]
abbrev P_is_path_of : List Str := ["paths", "thing"]

theorem sc_is_path_of : FnScope N_is_path_of P_is_path_of (defScope s_is_path_of) := ⟨rfl, rfl, rfl, by decide +kernel, rfl, by decide +kernel, by decide +kernel⟩

theorem b_is_path_of {P : Program} {w : World} {K : PySem.W.Frag} {mg : Str → Option Value} {base : Heap} {k : Nat} {f : Addr} (T : Tx P w K mg) {sp_is_number : DSp} (C_is_number : Callee P w K mg base k "is_number" P_is_number sp_is_number)  (cdv : Value) (A : Around) (out : List Env) (st : Shared) (H : Hp) (E : XK)
    (hr : Room k (A.deeper (PyProof.Rows.envOfC "is_path_of" (defScope s_is_path_of) st.heap.objs.size f cdv))) (hgd : (A.deeper (PyProof.Rows.envOfC "is_path_of" (defScope s_is_path_of) st.heap.objs.size f cdv)).guards = some []) :
    DSs (cxOf CX0 P w K mg base N_is_path_of "is_path_of" (defScope s_is_path_of) f cdv A out st H E).nox (defBody s_is_path_of) (r_is_path_of sp_is_number) := by
  have SC := sc_is_path_of
  have hu := hu_of hr
  have hu64 := hr.units
  have hu70 := hu70_of hr
  exact (ds_one (ds_ret (de_and (de_isi (T := "tuple") (by decide) rfl T.m_isinstance rfl T.m_tuple (by decide +kernel) (dv 1)) (de_and (de_callB (c_all rfl) rfl T.m_all (by decide +kernel) (da_cons (de_frz (de_lc (own := [("k", 2)]) (ct := (.one 2)) rfl SC.nd (di_seq (dv 1)) (blkOk_by (by show blkC N_is_path_of (defScope s_is_path_of) _ _ = true; decide +kernel)) (by decide) (fun _ _ _ _ _ => pg_name (i := 2) SC.nd rfl (Or.inl rfl)) (fun _ _ _ _ _ => dts_nil) (fun _ _ _ _ _ => (dc C_is_number hr hgd rfl (da_cons (dv 2) da_nil))))) da_nil)) (de_one (de_cmp (o_inT hu70) (dv 1) (dv 0) rfl))))))

theorem d_is_path_of {P : Program} {w : World} {K : PySem.W.Frag} {mg : Str → Option Value} {base : Heap} {k : Nat} {f : Addr} {fd : FuncData} {sp : DSp} (T : Tx P w K mg) {sp_is_number : DSp} (C_is_number : Callee P w K mg base k "is_number" P_is_number sp_is_number) 
    (F : FunD K "is_path_of" "is_path_of" (defArgs s_is_path_of) (defBody s_is_path_of) (defScope s_is_path_of) [] [] f fd) (len : ∀ ds G Q E, sp ds G Q E → ds.length = 2)
    (ok : ∀ ds G Q E, sp ds G Q E → (r_is_path_of sp_is_number) { nx := fun _ G' => Q .non G', rt := Q } (startD 3 ds) G) : DFn P w K mg base (k + 1) f fd P_is_path_of sp :=
  dfn_of F sc_is_path_of len (b_is_path_of T C_is_number) ok

theorem k_is_path_of {P : Program} {w : World} {K : PySem.W.Frag} {mg : Str → Option Value} {base : Heap} {k : Nat} {f : Addr} {fd : FuncData} {sp : DSp} (T : Tx P w K mg) {sp_is_number : DSp} (C_is_number : Callee P w K mg base k "is_number" P_is_number sp_is_number) 
    (F : FunD K "is_path_of" "is_path_of" (defArgs s_is_path_of) (defBody s_is_path_of) (defScope s_is_path_of) [] [] f fd) (hm : mg "is_path_of" = some (.ref f)) (len : ∀ ds G Q E, sp ds G Q E → ds.length = 2)
    (ok : ∀ ds G Q E, sp ds G Q E → (r_is_path_of sp_is_number) { nx := fun _ G' => Q .non G', rt := Q } (startD 3 ds) G) : Callee P w K mg base (k + 1) "is_path_of" P_is_path_of sp :=
  callee_of F hm (d_is_path_of T C_is_number F len ok) (fun _ _ _ _ _ _ us hl => match us, hl with | [_, _], _ => rfl) (fun _ _ _ _ _ _ us hl => match us, hl with | [_, _], _ => rfl)

abbrev N_told_at : List Str := ["work", "paths", "known", "k", "path", "late"]
abbrev P_told_at : List Str := ["work", "paths"]

theorem sc_told_at : FnScope N_told_at P_told_at (defScope s_told_at) := ⟨rfl, rfl, rfl, by decide +kernel, rfl, by decide +kernel, by decide +kernel⟩

theorem b_told_at {P : Program} {w : World} {K : PySem.W.Frag} {mg : Str → Option Value} {base : Heap} {k : Nat} {f : Addr} (T : Tx P w K mg) {sp_is_path_of : DSp} {sp_loops_of : DSp} {sx_with_told : DSp} {sx_require_usable : DSp} (C_is_path_of : Callee P w K mg base k "is_path_of" P_is_path_of sp_is_path_of) (C_loops_of : Callee P w K mg base k "loops_of" P_loops_of sp_loops_of)  (X_with_told : XCallee P w K mg base k "with_told" P_with_told sx_with_told) (X_require_usable : XCallee P w K mg base k "require_usable" P_require_usable sx_require_usable)    (cdv : Value) (A : Around) (out : List Env) (st : Shared) (H : Hp) (E : XK)
    (hr : Room k (A.deeper (PyProof.Rows.envOfC "told_at" (defScope s_told_at) st.heap.objs.size f cdv))) (hgd : (A.deeper (PyProof.Rows.envOfC "told_at" (defScope s_told_at) st.heap.objs.size f cdv)).guards = some []) (tk : Takes (cxOf (L2.CX P w) P w K mg base N_told_at "told_at" (defScope s_told_at) f cdv A out st H E) (fun c d _ H' => E c d H')) (hpo : PassesOwn (model P w) (A.deeper (PyProof.Rows.envOfC "told_at" (defScope s_told_at) st.heap.objs.size f cdv)) (PyProof.Rows.envOfC "told_at" (defScope s_told_at) st.heap.objs.size f cdv) (cxOf (L2.CX P w) P w K mg base N_told_at "told_at" (defScope s_told_at) f cdv A out st H E).xe) :
    XSs (cxOf (L2.CX P w) P w K mg base N_told_at "told_at" (defScope s_told_at) f cdv A out st H E) (fun c d _ H' => E c d H') (defBody s_told_at) (r_told_at sp_is_path_of sp_loops_of sx_with_told sx_require_usable) := by
  have SC := sc_told_at
  have hu := hu_of hr
  have hu64 := hr.units
  have hu70 := hu70_of hr
  exact (xs_cons (xs_expr (xc X_require_usable tk hr hgd rfl (xa_p (da_cons (de_isi (T := "tuple") (by decide) rfl T.m_isinstance rfl T.m_tuple (by decide +kernel) (dv 1)) (da_cons de_str (da_cons (de_neg de_int) da_nil))))))
  (xs_cons (xs_p (ds_set (i := 2) SC.nd rfl (by first | exact Or.inl rfl | exact Or.inr rfl) (dc C_loops_of hr hgd rfl (da_cons (dv 0) da_nil))))
  (xs_cons (xs_for hpo rfl (di_enumT rfl T.m_enumerate (dv 1)) (dg_tup rfl (dgs_cons (dg_name (i := 3) SC.nd rfl (by first | exact Or.inl rfl | exact Or.inr rfl)) (dgs_cons (dg_name (i := 4) SC.nd rfl (by first | exact Or.inl rfl | exact Or.inr rfl)) dgs_nil)))
  (xs_one (xs_expr (xc X_require_usable tk hr hgd rfl (xa_p (da_cons (dc C_is_path_of hr hgd rfl (da_cons (dv 2) (da_cons (dv 4) da_nil))) (da_cons de_str (da_cons (dv 3) da_nil))))))))
  (xs_cons (xs_p (ds_set (i := 5) SC.nd rfl (by first | exact Or.inl rfl | exact Or.inr rfl) (dv 0)))
  (xs_cons (xs_for hpo rfl (di_seq (dv 1)) (dg_name (i := 4) SC.nd rfl (by first | exact Or.inl rfl | exact Or.inr rfl))
  (xs_one (xs_set (i := 5) SC.nd rfl (by first | exact Or.inl rfl | exact Or.inr rfl) (xc X_with_told tk hr hgd rfl (xa_p (da_cons (dv 5) (da_cons (dv 4) (da_cons de_bl da_nil))))))))
  (xs_one (xs_p (ds_ret (dv 5)))))))))

theorem d_told_at {P : Program} {w : World} {K : PySem.W.Frag} {mg : Str → Option Value} {base : Heap} {k : Nat} {f : Addr} {fd : FuncData} {sp : DSp} (T : Tx P w K mg) {sp_is_path_of : DSp} {sp_loops_of : DSp} {sx_with_told : DSp} {sx_require_usable : DSp} (C_is_path_of : Callee P w K mg base k "is_path_of" P_is_path_of sp_is_path_of) (C_loops_of : Callee P w K mg base k "loops_of" P_loops_of sp_loops_of)  (X_with_told : XCallee P w K mg base k "with_told" P_with_told sx_with_told) (X_require_usable : XCallee P w K mg base k "require_usable" P_require_usable sx_require_usable)   
    (F : FunD K "told_at" "told_at" (defArgs s_told_at) (defBody s_told_at) (defScope s_told_at) [] [] f fd) (len : ∀ ds G Q E, sp ds G Q E → ds.length = 2)
    (ok : ∀ ds G Q E, sp ds G Q E → (r_told_at sp_is_path_of sp_loops_of sx_with_told sx_require_usable) (fun x _ G' => E x G') { nx := fun _ G' => Q .non G', rt := Q } (startD 6 ds) G) : XFn P w K mg base (k + 1) f fd P_told_at sp :=
  xfn_of F sc_told_at len (b_told_at T C_is_path_of C_loops_of X_with_told X_require_usable) ok

theorem k_told_at {P : Program} {w : World} {K : PySem.W.Frag} {mg : Str → Option Value} {base : Heap} {k : Nat} {f : Addr} {fd : FuncData} {sp : DSp} (T : Tx P w K mg) {sp_is_path_of : DSp} {sp_loops_of : DSp} {sx_with_told : DSp} {sx_require_usable : DSp} (C_is_path_of : Callee P w K mg base k "is_path_of" P_is_path_of sp_is_path_of) (C_loops_of : Callee P w K mg base k "loops_of" P_loops_of sp_loops_of)  (X_with_told : XCallee P w K mg base k "with_told" P_with_told sx_with_told) (X_require_usable : XCallee P w K mg base k "require_usable" P_require_usable sx_require_usable)   
    (F : FunD K "told_at" "told_at" (defArgs s_told_at) (defBody s_told_at) (defScope s_told_at) [] [] f fd) (hm : mg "told_at" = some (.ref f)) (len : ∀ ds G Q E, sp ds G Q E → ds.length = 2)
    (ok : ∀ ds G Q E, sp ds G Q E → (r_told_at sp_is_path_of sp_loops_of sx_with_told sx_require_usable) (fun x _ G' => E x G') { nx := fun _ G' => Q .non G', rt := Q } (startD 6 ds) G) : XCallee P w K mg base (k + 1) "told_at" P_told_at sp :=
  xcallee_of F hm (d_told_at T C_is_path_of C_loops_of X_with_told X_require_usable F len ok) (fun _ _ _ _ _ _ us hl => match us, hl with | [_, _], _ => rfl) (fun _ _ _ _ _ _ us hl => match us, hl with | [_, _], _ => rfl)

abbrev N_law_feed : List Str := ["_law_script"]
abbrev P_law_feed : List Str := ["_law_script"]

theorem sc_law_feed : FnScope N_law_feed P_law_feed (defScope s_law_feed) := ⟨rfl, rfl, rfl, by decide +kernel, rfl, by decide +kernel, by decide +kernel⟩

theorem b_law_feed {P : Program} {w : World} {K : PySem.W.Frag} {mg : Str → Option Value} {base : Heap} {k : Nat} {f : Addr} (T : Tx P w K mg)    (cdv : Value) (A : Around) (out : List Env) (st : Shared) (H : Hp) (E : XK)
    (hr : Room k (A.deeper (PyProof.Rows.envOfC "_law_feed" (defScope s_law_feed) st.heap.objs.size f cdv))) (hgd : (A.deeper (PyProof.Rows.envOfC "_law_feed" (defScope s_law_feed) st.heap.objs.size f cdv)).guards = some []) :
    DSs (cxOf CX0 P w K mg base N_law_feed "_law_feed" (defScope s_law_feed) f cdv A out st H E).nox (defBody s_law_feed) (r_law_feed) := by
  have SC := sc_law_feed
  have hu := hu_of hr
  have hu64 := hr.units
  have hu70 := hu70_of hr
  exact (ds_one (ds_ret (de_disp (dps_cons de_str (de_frz (de_callTy c_list rfl T.m_list (by decide +kernel) (da_cons (de_frz (de_slice (dv 0) do_none (do_some de_int))) da_nil))) (dps_cons de_str de_int (dps_cons de_str de_int (dps_cons de_str de_int dps_nil)))))))

theorem d_law_feed {P : Program} {w : World} {K : PySem.W.Frag} {mg : Str → Option Value} {base : Heap} {k : Nat} {f : Addr} {fd : FuncData} {sp : DSp} (T : Tx P w K mg)   
    (F : FunD K "_law_feed" "_law_feed" (defArgs s_law_feed) (defBody s_law_feed) (defScope s_law_feed) [] [] f fd) (len : ∀ ds G Q E, sp ds G Q E → ds.length = 1)
    (ok : ∀ ds G Q E, sp ds G Q E → (r_law_feed) { nx := fun _ G' => Q .non G', rt := Q } (startD 1 ds) G) : DFn P w K mg base (k + 1) f fd P_law_feed sp :=
  dfn_of F sc_law_feed len (b_law_feed T) ok

theorem k_law_feed {P : Program} {w : World} {K : PySem.W.Frag} {mg : Str → Option Value} {base : Heap} {k : Nat} {f : Addr} {fd : FuncData} {sp : DSp} (T : Tx P w K mg)   
    (F : FunD K "_law_feed" "_law_feed" (defArgs s_law_feed) (defBody s_law_feed) (defScope s_law_feed) [] [] f fd) (hm : mg "_law_feed" = some (.ref f)) (len : ∀ ds G Q E, sp ds G Q E → ds.length = 1)
    (ok : ∀ ds G Q E, sp ds G Q E → (r_law_feed) { nx := fun _ G' => Q .non G', rt := Q } (startD 1 ds) G) : Callee P w K mg base (k + 1) "_law_feed" P_law_feed sp :=
  callee_of F hm (d_law_feed T F len ok) (fun _ _ _ _ _ _ us hl => match us, hl with | [_], _ => rfl) (fun _ _ _ _ _ _ us hl => match us, hl with | [_], _ => rfl)

abbrev N_law_draw : List Str := ["_law_feed_here", "_law_many", "_law_digit", "_law_spot", "_law_cell", "_law_mixed"]
abbrev P_law_draw : List Str := ["_law_feed_here", "_law_many"]

theorem sc_law_draw : FnScope N_law_draw P_law_draw (defScope s_law_draw) := ⟨rfl, rfl, rfl, by decide +kernel, rfl, by decide +kernel, by decide +kernel⟩

theorem b_law_draw {P : Program} {w : World} {K : PySem.W.Frag} {mg : Str → Option Value} {base : Heap} {k : Nat} {f : Addr} (T : Tx P w K mg)    (cdv : Value) (A : Around) (out : List Env) (st : Shared) (H : Hp) (E : XK)
    (hr : Room k (A.deeper (PyProof.Rows.envOfC "_law_draw" (defScope s_law_draw) st.heap.objs.size f cdv))) (hgd : (A.deeper (PyProof.Rows.envOfC "_law_draw" (defScope s_law_draw) st.heap.objs.size f cdv)).guards = some []) :
    DSs (cxOf CX0 P w K mg base N_law_draw "_law_draw" (defScope s_law_draw) f cdv A out st H E).nox (defBody s_law_draw) (r_law_draw) := by
  have SC := sc_law_draw
  have hu := hu_of hr
  have hu64 := hr.units
  have hu70 := hu70_of hr
  exact (ds_cons (ds_asg (de_op o_add (de_dget hu (dv 0) de_str) de_int) (dg_sub (dv 0) de_str (set_dct hu)))
  (ds_cons (ds_if (dt_cmp o_gt (de_dget hu (dv 0) de_str) de_int (nomark _))
  (ds_cons (ds_set (i := 2) SC.nd rfl (by first | exact Or.inl rfl | exact Or.inr rfl) (de_op o_mod (de_callTy c_int rfl T.m_int (by decide +kernel) (da_cons (de_dget hu (dv 0) de_str) da_nil)) (dv 1)))
  (ds_cons (ds_asg (de_op o_fdiv (de_dget hu (dv 0) de_str) (dv 1)) (dg_sub (dv 0) de_str (set_dct hu)))
  (ds_one (ds_ret (dv 2)))))
  ds_nil)
  (ds_cons (ds_set (i := 3) SC.nd rfl (by first | exact Or.inl rfl | exact Or.inr rfl) (de_dget hu (dv 0) de_str))
  (ds_cons (ds_asg (de_op o_add (dv 3) de_int) (dg_sub (dv 0) de_str (set_dct hu)))
  (ds_cons (ds_set (i := 4) SC.nd rfl (by first | exact Or.inl rfl | exact Or.inr rfl) (de_if (dt_cmp (o_ne hu64) (de_dget hu (dv 0) de_str) (de_frz (de_lst da_nil)) (nomark _)) (de_ix (de_dget hu (dv 0) de_str) (de_op o_mod (de_callTy c_int rfl T.m_int (by decide +kernel) (da_cons (dv 3) da_nil)) (de_callB c_len rfl T.m_len PySem.boot_len (da_cons (de_dget hu (dv 0) de_str) da_nil)))) de_int))
  (ds_cons (ds_if (dt_w (dw_and (dt_cmp o_ge (dv 4) (de_op o_pow de_int de_int) (nomark _)) (dw_and1 (dt_cmp o_lt (dv 3) (de_callB c_len rfl T.m_len PySem.boot_len (da_cons (de_dget hu (dv 0) de_str) da_nil)) (nomark _)))))
  (ds_cons (ds_asg (de_op o_fdiv (dv 4) (dv 1)) (dg_sub (dv 0) de_str (set_dct hu)))
  (ds_one (ds_ret (de_op o_mod (de_callTy c_int rfl T.m_int (by decide +kernel) (da_cons (dv 4) da_nil)) (dv 1)))))
  ds_nil)
  (ds_cons (ds_set (i := 5) SC.nd rfl (by first | exact Or.inl rfl | exact Or.inr rfl) (de_op o_mod (de_callTy c_int rfl T.m_int (by decide +kernel) (da_cons (de_op o_add (de_op o_add (de_op o_mod (de_callTy c_int rfl T.m_int (by decide +kernel) (da_cons (dv 4) da_nil)) de_int) (de_op o_mul de_int (de_dget hu (dv 0) de_str))) de_int) da_nil)) de_int))
  (ds_cons (ds_set (i := 5) SC.nd rfl (by first | exact Or.inl rfl | exact Or.inr rfl) (de_op o_mod (de_callTy c_int rfl T.m_int (by decide +kernel) (da_cons (de_op o_add (de_op o_add (de_op o_mul (dv 5) (dv 5)) (de_op o_mul de_int (de_dget hu (dv 0) de_str))) de_int) da_nil)) de_int))
  (ds_one (ds_ret (de_op o_mod (de_callTy c_int rfl T.m_int (by decide +kernel) (da_cons (de_op o_fdiv (de_op o_mod (de_callTy c_int rfl T.m_int (by decide +kernel) (da_cons (de_op o_add (de_op o_mul (dv 5) (dv 5)) (de_op o_mul de_int (dv 5))) da_nil)) de_int) de_int) da_nil)) (dv 1))))))))))))

theorem d_law_draw {P : Program} {w : World} {K : PySem.W.Frag} {mg : Str → Option Value} {base : Heap} {k : Nat} {f : Addr} {fd : FuncData} {sp : DSp} (T : Tx P w K mg)   
    (F : FunD K "_law_draw" "_law_draw" (defArgs s_law_draw) (defBody s_law_draw) (defScope s_law_draw) [] [] f fd) (len : ∀ ds G Q E, sp ds G Q E → ds.length = 2)
    (ok : ∀ ds G Q E, sp ds G Q E → (r_law_draw) { nx := fun _ G' => Q .non G', rt := Q } (startD 6 ds) G) : DFn P w K mg base (k + 1) f fd P_law_draw sp :=
  dfn_of F sc_law_draw len (b_law_draw T) ok

theorem k_law_draw {P : Program} {w : World} {K : PySem.W.Frag} {mg : Str → Option Value} {base : Heap} {k : Nat} {f : Addr} {fd : FuncData} {sp : DSp} (T : Tx P w K mg)   
    (F : FunD K "_law_draw" "_law_draw" (defArgs s_law_draw) (defBody s_law_draw) (defScope s_law_draw) [] [] f fd) (hm : mg "_law_draw" = some (.ref f)) (len : ∀ ds G Q E, sp ds G Q E → ds.length = 2)
    (ok : ∀ ds G Q E, sp ds G Q E → (r_law_draw) { nx := fun _ G' => Q .non G', rt := Q } (startD 6 ds) G) : Callee P w K mg base (k + 1) "_law_draw" P_law_draw sp :=
  callee_of F hm (d_law_draw T F len ok) (fun _ _ _ _ _ _ us hl => match us, hl with | [_, _], _ => rfl) (fun _ _ _ _ _ _ us hl => match us, hl with | [_, _], _ => rfl)

abbrev N_law_subs : List Str := ["_law_item"]
abbrev P_law_subs : List Str := ["_law_item"]

theorem sc_law_subs : FnScope N_law_subs P_law_subs (defScope s_law_subs) := ⟨rfl, rfl, rfl, by decide +kernel, rfl, by decide +kernel, by decide +kernel⟩

theorem b_law_subs {P : Program} {w : World} {K : PySem.W.Frag} {mg : Str → Option Value} {base : Heap} {k : Nat} {f : Addr} (T : Tx P w K mg)    (cdv : Value) (A : Around) (out : List Env) (st : Shared) (H : Hp) (E : XK)
    (hr : Room k (A.deeper (PyProof.Rows.envOfC "_law_subs" (defScope s_law_subs) st.heap.objs.size f cdv))) (hgd : (A.deeper (PyProof.Rows.envOfC "_law_subs" (defScope s_law_subs) st.heap.objs.size f cdv)).guards = some []) :
    DSs (cxOf CX0 P w K mg base N_law_subs "_law_subs" (defScope s_law_subs) f cdv A out st H E).nox (defBody s_law_subs) (r_law_subs) := by
  have SC := sc_law_subs
  have hu := hu_of hr
  have hu64 := hr.units
  have hu70 := hu70_of hr
  exact (ds_cons (ds_if (dt_cmp o_in (de_ix (dv 0) de_int) (de_tup (da_cons de_str (da_cons de_str da_nil))) rfl)
  (ds_one (ds_ret (de_callTy c_list rfl T.m_list (by decide +kernel) (da_cons (de_ix (dv 0) de_int) da_nil))))
  ds_nil)
  (ds_cons (ds_if (dt_cmp (o_eq hu64) (de_ix (dv 0) de_int) de_str (nomark _))
  (ds_one (ds_ret (de_lst (da_cons (de_ix (dv 0) de_int) (da_cons (de_ix (dv 0) de_int) da_nil)))))
  ds_nil)
  (ds_one (ds_ret (de_if (dt_cmp (o_eq hu64) (de_ix (dv 0) de_int) de_str (nomark _)) (de_lst (da_cons (de_ix (dv 0) de_int) da_nil)) (de_lst da_nil))))))

theorem d_law_subs {P : Program} {w : World} {K : PySem.W.Frag} {mg : Str → Option Value} {base : Heap} {k : Nat} {f : Addr} {fd : FuncData} {sp : DSp} (T : Tx P w K mg)   
    (F : FunD K "_law_subs" "_law_subs" (defArgs s_law_subs) (defBody s_law_subs) (defScope s_law_subs) [] [] f fd) (len : ∀ ds G Q E, sp ds G Q E → ds.length = 1)
    (ok : ∀ ds G Q E, sp ds G Q E → (r_law_subs) { nx := fun _ G' => Q .non G', rt := Q } (startD 1 ds) G) : DFn P w K mg base (k + 1) f fd P_law_subs sp :=
  dfn_of F sc_law_subs len (b_law_subs T) ok

theorem k_law_subs {P : Program} {w : World} {K : PySem.W.Frag} {mg : Str → Option Value} {base : Heap} {k : Nat} {f : Addr} {fd : FuncData} {sp : DSp} (T : Tx P w K mg)   
    (F : FunD K "_law_subs" "_law_subs" (defArgs s_law_subs) (defBody s_law_subs) (defScope s_law_subs) [] [] f fd) (hm : mg "_law_subs" = some (.ref f)) (len : ∀ ds G Q E, sp ds G Q E → ds.length = 1)
    (ok : ∀ ds G Q E, sp ds G Q E → (r_law_subs) { nx := fun _ G' => Q .non G', rt := Q } (startD 1 ds) G) : Callee P w K mg base (k + 1) "_law_subs" P_law_subs sp :=
  callee_of F hm (d_law_subs T F len ok) (fun _ _ _ _ _ _ us hl => match us, hl with | [_], _ => rfl) (fun _ _ _ _ _ _ us hl => match us, hl with | [_], _ => rfl)

abbrev N_law_all : List Str := ["_law_item", "_law_ahead", "_law_found", "_law_some", "_law_k"]
abbrev P_law_all : List Str := ["_law_item", "_law_ahead"]

theorem sc_law_all : FnScope N_law_all P_law_all (defScope s_law_all) := ⟨rfl, rfl, rfl, by decide +kernel, rfl, by decide +kernel, by decide +kernel⟩

theorem b_law_all {P : Program} {w : World} {K : PySem.W.Frag} {mg : Str → Option Value} {base : Heap} {k : Nat} {f : Addr} (T : Tx P w K mg) {sp_law_all : DSp} {sp_law_subs : DSp} (C_law_all : Callee P w K mg base k "_law_all" P_law_all sp_law_all) (C_law_subs : Callee P w K mg base k "_law_subs" P_law_subs sp_law_subs)  (cdv : Value) (A : Around) (out : List Env) (st : Shared) (H : Hp) (E : XK)
    (hr : Room k (A.deeper (PyProof.Rows.envOfC "_law_all" (defScope s_law_all) st.heap.objs.size f cdv))) (hgd : (A.deeper (PyProof.Rows.envOfC "_law_all" (defScope s_law_all) st.heap.objs.size f cdv)).guards = some []) :
    DSs (cxOf CX0 P w K mg base N_law_all "_law_all" (defScope s_law_all) f cdv A out st H E).nox (defBody s_law_all) (r_law_all sp_law_all sp_law_subs) := by
  have SC := sc_law_all
  have hu := hu_of hr
  have hu64 := hr.units
  have hu70 := hu70_of hr
  exact (ds_cons (ds_par (i := 2) (j := 3) rfl SC.nd rfl rfl (by decide) rfl rfl (da_cons (de_lst (da_cons (de_tup (da_cons (dv 1) (da_cons (dv 0) da_nil))) da_nil)) (da_cons (de_frz (dc C_law_subs hr hgd rfl (da_cons (dv 0) da_nil))) da_nil)) rfl)
  (ds_cons (ds_for PassesOwn.never rfl (di_range1 rfl T.m_range (da_cons (de_callB c_len rfl T.m_len PySem.boot_len (da_cons (dv 3) da_nil)) da_nil)) (dg_name (i := 4) SC.nd rfl (by first | exact Or.inl rfl | exact Or.inr rfl))
  (ds_one (ds_expr (de_extend (dv 2) (dc C_law_all hr hgd rfl (da_cons (de_ix (dv 3) (dv 4)) (da_cons (de_op o_add (dv 1) (de_tup (da_cons (dv 4) da_nil))) da_nil)))))))
  (ds_one (ds_ret (de_frz (dv 2))))))

theorem d_law_all {P : Program} {w : World} {K : PySem.W.Frag} {mg : Str → Option Value} {base : Heap} {k : Nat} {f : Addr} {fd : FuncData} {sp : DSp} (T : Tx P w K mg) {sp_law_all : DSp} {sp_law_subs : DSp} (C_law_all : Callee P w K mg base k "_law_all" P_law_all sp_law_all) (C_law_subs : Callee P w K mg base k "_law_subs" P_law_subs sp_law_subs) 
    (F : FunD K "_law_all" "_law_all" (defArgs s_law_all) (defBody s_law_all) (defScope s_law_all) [] [] f fd) (len : ∀ ds G Q E, sp ds G Q E → ds.length = 2)
    (ok : ∀ ds G Q E, sp ds G Q E → (r_law_all sp_law_all sp_law_subs) { nx := fun _ G' => Q .non G', rt := Q } (startD 5 ds) G) : DFn P w K mg base (k + 1) f fd P_law_all sp :=
  dfn_of F sc_law_all len (b_law_all T C_law_all C_law_subs) ok

theorem k_law_all {P : Program} {w : World} {K : PySem.W.Frag} {mg : Str → Option Value} {base : Heap} {k : Nat} {f : Addr} {fd : FuncData} {sp : DSp} (T : Tx P w K mg) {sp_law_all : DSp} {sp_law_subs : DSp} (C_law_all : Callee P w K mg base k "_law_all" P_law_all sp_law_all) (C_law_subs : Callee P w K mg base k "_law_subs" P_law_subs sp_law_subs) 
    (F : FunD K "_law_all" "_law_all" (defArgs s_law_all) (defBody s_law_all) (defScope s_law_all) [] [] f fd) (hm : mg "_law_all" = some (.ref f)) (len : ∀ ds G Q E, sp ds G Q E → ds.length = 2)
    (ok : ∀ ds G Q E, sp ds G Q E → (r_law_all sp_law_all sp_law_subs) { nx := fun _ G' => Q .non G', rt := Q } (startD 5 ds) G) : Callee P w K mg base (k + 1) "_law_all" P_law_all sp :=
  callee_of F hm (d_law_all T C_law_all C_law_subs F len ok) (fun _ _ _ _ _ _ us hl => match us, hl with | [_, _], _ => rfl) (fun _ _ _ _ _ _ us hl => match us, hl with | [_, _], _ => rfl)

theorem z_law_all {P : Program} {w : World} {K : PySem.W.Frag} {mg : Str → Option Value} {base : Heap} {f : Addr} {fd : FuncData} {sp : DSp} (F : FunD K "_law_all" "_law_all" (defArgs s_law_all) (defBody s_law_all) (defScope s_law_all) [] [] f fd) (hm : mg "_law_all" = some (.ref f)) (h : ∀ ds G Q E, ¬ sp ds G Q E) : Callee P w K mg base 0 "_law_all" P_law_all sp :=
  callee0 F hm h (fun _ _ _ _ _ _ us hl => match us, hl with | [_, _], _ => rfl) (fun _ _ _ _ _ _ us hl => match us, hl with | [_, _], _ => rfl)

abbrev N_law_put : List Str := ["_law_item", "_law_spot_in", "_law_late", "_law_k", "_law_some"]
abbrev P_law_put : List Str := ["_law_item", "_law_spot_in", "_law_late"]

theorem sc_law_put : FnScope N_law_put P_law_put (defScope s_law_put) := ⟨rfl, rfl, rfl, by decide +kernel, rfl, by decide +kernel, by decide +kernel⟩

theorem b_law_put {P : Program} {w : World} {K : PySem.W.Frag} {mg : Str → Option Value} {base : Heap} {k : Nat} {f : Addr} (T : Tx P w K mg) {sp_law_put : DSp} {sp_law_subs : DSp} (C_law_put : Callee P w K mg base k "_law_put" P_law_put sp_law_put) (C_law_subs : Callee P w K mg base k "_law_subs" P_law_subs sp_law_subs)  (cdv : Value) (A : Around) (out : List Env) (st : Shared) (H : Hp) (E : XK)
    (hr : Room k (A.deeper (PyProof.Rows.envOfC "_law_put" (defScope s_law_put) st.heap.objs.size f cdv))) (hgd : (A.deeper (PyProof.Rows.envOfC "_law_put" (defScope s_law_put) st.heap.objs.size f cdv)).guards = some []) :
    DSs (cxOf CX0 P w K mg base N_law_put "_law_put" (defScope s_law_put) f cdv A out st H E).nox (defBody s_law_put) (r_law_put sp_law_put sp_law_subs) := by
  have SC := sc_law_put
  have hu := hu_of hr
  have hu64 := hr.units
  have hu70 := hu70_of hr
  exact (ds_cons (ds_if (dt_cmp (o_eq hu64) (dv 1) (de_tup da_nil) (nomark _))
  (ds_one (ds_ret (dv 2)))
  ds_nil)
  (ds_cons (ds_par (i := 3) (j := 4) rfl SC.nd rfl rfl (by decide) rfl rfl (da_cons (de_ix (dv 1) de_int) (da_cons (dc C_law_subs hr hgd rfl (da_cons (dv 0) da_nil)) da_nil)) rfl)
  (ds_cons (ds_asg (dc C_law_put hr hgd rfl (da_cons (de_ix (dv 4) (dv 3)) (da_cons (de_slice (dv 1) (do_some de_int) do_none) (da_cons (dv 2) da_nil)))) (dg_sub (dv 4) (dv 3) set_lst))
  (ds_cons (ds_if (dt_cmp o_in (de_ix (dv 0) de_int) (de_tup (da_cons de_str (da_cons de_str da_nil))) rfl)
  (ds_one (ds_ret (de_tup (da_cons (de_ix (dv 0) de_int) (da_cons (de_callTy c_tuple rfl T.m_tuple (by decide +kernel) (da_cons (dv 4) da_nil)) da_nil)))))
  ds_nil)
  (ds_one (ds_ret (de_if (dt_cmp (o_eq hu64) (de_ix (dv 0) de_int) de_str (nomark _)) (de_op o_add (de_slice (dv 0) do_none (do_some de_int)) (de_tup (da_cons (de_ix (dv 4) de_int) da_nil))) (de_tup (da_cons (de_ix (dv 0) de_int) (da_cons (de_ix (dv 4) de_int) (da_cons (de_ix (dv 4) de_int) da_nil)))))))))))

theorem d_law_put {P : Program} {w : World} {K : PySem.W.Frag} {mg : Str → Option Value} {base : Heap} {k : Nat} {f : Addr} {fd : FuncData} {sp : DSp} (T : Tx P w K mg) {sp_law_put : DSp} {sp_law_subs : DSp} (C_law_put : Callee P w K mg base k "_law_put" P_law_put sp_law_put) (C_law_subs : Callee P w K mg base k "_law_subs" P_law_subs sp_law_subs) 
    (F : FunD K "_law_put" "_law_put" (defArgs s_law_put) (defBody s_law_put) (defScope s_law_put) [] [] f fd) (len : ∀ ds G Q E, sp ds G Q E → ds.length = 3)
    (ok : ∀ ds G Q E, sp ds G Q E → (r_law_put sp_law_put sp_law_subs) { nx := fun _ G' => Q .non G', rt := Q } (startD 5 ds) G) : DFn P w K mg base (k + 1) f fd P_law_put sp :=
  dfn_of F sc_law_put len (b_law_put T C_law_put C_law_subs) ok

theorem k_law_put {P : Program} {w : World} {K : PySem.W.Frag} {mg : Str → Option Value} {base : Heap} {k : Nat} {f : Addr} {fd : FuncData} {sp : DSp} (T : Tx P w K mg) {sp_law_put : DSp} {sp_law_subs : DSp} (C_law_put : Callee P w K mg base k "_law_put" P_law_put sp_law_put) (C_law_subs : Callee P w K mg base k "_law_subs" P_law_subs sp_law_subs) 
    (F : FunD K "_law_put" "_law_put" (defArgs s_law_put) (defBody s_law_put) (defScope s_law_put) [] [] f fd) (hm : mg "_law_put" = some (.ref f)) (len : ∀ ds G Q E, sp ds G Q E → ds.length = 3)
    (ok : ∀ ds G Q E, sp ds G Q E → (r_law_put sp_law_put sp_law_subs) { nx := fun _ G' => Q .non G', rt := Q } (startD 5 ds) G) : Callee P w K mg base (k + 1) "_law_put" P_law_put sp :=
  callee_of F hm (d_law_put T C_law_put C_law_subs F len ok) (fun _ _ _ _ _ _ us hl => match us, hl with | [_, _, _], _ => rfl) (fun _ _ _ _ _ _ us hl => match us, hl with | [_, _, _], _ => rfl)

theorem z_law_put {P : Program} {w : World} {K : PySem.W.Frag} {mg : Str → Option Value} {base : Heap} {f : Addr} {fd : FuncData} {sp : DSp} (F : FunD K "_law_put" "_law_put" (defArgs s_law_put) (defBody s_law_put) (defScope s_law_put) [] [] f fd) (hm : mg "_law_put" = some (.ref f)) (h : ∀ ds G Q E, ¬ sp ds G Q E) : Callee P w K mg base 0 "_law_put" P_law_put sp :=
  callee0 F hm h (fun _ _ _ _ _ _ us hl => match us, hl with | [_, _, _], _ => rfl) (fun _ _ _ _ _ _ us hl => match us, hl with | [_, _, _], _ => rfl)

abbrev N_law_fewest : List Str := ["_law_item", "_law_some", "_law_own"]
abbrev P_law_fewest : List Str := ["_law_item"]

theorem sc_law_fewest : FnScope N_law_fewest P_law_fewest (defScope s_law_fewest) := ⟨rfl, rfl, rfl, by decide +kernel, rfl, by decide +kernel, by decide +kernel⟩

theorem b_law_fewest {P : Program} {w : World} {K : PySem.W.Frag} {mg : Str → Option Value} {base : Heap} {k : Nat} {f : Addr} (T : Tx P w K mg) {sp_law_subs : DSp} {sp_law_fewest : DSp} (C_law_subs : Callee P w K mg base k "_law_subs" P_law_subs sp_law_subs) (C_law_fewest : Callee P w K mg base k "_law_fewest" P_law_fewest sp_law_fewest)  (cdv : Value) (A : Around) (out : List Env) (st : Shared) (H : Hp) (E : XK)
    (hr : Room k (A.deeper (PyProof.Rows.envOfC "_law_fewest" (defScope s_law_fewest) st.heap.objs.size f cdv))) (hgd : (A.deeper (PyProof.Rows.envOfC "_law_fewest" (defScope s_law_fewest) st.heap.objs.size f cdv)).guards = some []) :
    DSs (cxOf CX0 P w K mg base N_law_fewest "_law_fewest" (defScope s_law_fewest) f cdv A out st H E).nox (defBody s_law_fewest) (r_law_fewest sp_law_subs sp_law_fewest) := by
  have SC := sc_law_fewest
  have hu := hu_of hr
  have hu64 := hr.units
  have hu70 := hu70_of hr
  exact (ds_cons (ds_if (dt_cmp o_in (de_ix (dv 0) de_int) (de_tup (da_cons de_str (da_cons de_str da_nil))) rfl)
  (ds_one (ds_ret (de_ix (dv 0) de_int)))
  ds_nil)
  (ds_cons (ds_setLcF (i := 1) (own := [("_law_own", 2)]) (ct := (.one 2)) rfl SC.nd rfl rfl (sw_true rfl rfl rfl (by decide +kernel)) (di_seq (de_frz (dc C_law_subs hr hgd rfl (da_cons (dv 0) da_nil)))) (blkOk_by (by show blkC N_law_fewest (defScope s_law_fewest) _ _ = true; decide +kernel)) (by decide) (fun _ _ _ _ _ => pg_name (i := 2) SC.nd rfl (Or.inl rfl)) (fun _ _ _ _ _ => dts_nil) (fun _ _ _ _ _ => (dc C_law_fewest hr hgd rfl (da_cons (dv 2) da_nil))))
  (ds_cons (ds_if (dt_cmp (o_eq hu64) (de_ix (dv 0) de_int) de_str (nomark _))
  (ds_one (ds_ret (de_callB (c_min rfl) rfl T.m_min (by decide +kernel) (da_cons (dv 1) da_nil))))
  ds_nil)
  (ds_one (ds_ret (de_if (dt_cmp (o_eq hu64) (de_ix (dv 0) de_int) de_str (nomark _)) (de_op o_mul (de_ix (dv 0) de_int) (de_ix (dv 1) de_int)) (de_callB (c_sum rfl) rfl T.m_sum (by decide +kernel) (da_cons (dv 1) da_nil))))))))

theorem d_law_fewest {P : Program} {w : World} {K : PySem.W.Frag} {mg : Str → Option Value} {base : Heap} {k : Nat} {f : Addr} {fd : FuncData} {sp : DSp} (T : Tx P w K mg) {sp_law_subs : DSp} {sp_law_fewest : DSp} (C_law_subs : Callee P w K mg base k "_law_subs" P_law_subs sp_law_subs) (C_law_fewest : Callee P w K mg base k "_law_fewest" P_law_fewest sp_law_fewest) 
    (F : FunD K "_law_fewest" "_law_fewest" (defArgs s_law_fewest) (defBody s_law_fewest) (defScope s_law_fewest) [] [] f fd) (len : ∀ ds G Q E, sp ds G Q E → ds.length = 1)
    (ok : ∀ ds G Q E, sp ds G Q E → (r_law_fewest sp_law_subs sp_law_fewest) { nx := fun _ G' => Q .non G', rt := Q } (startD 3 ds) G) : DFn P w K mg base (k + 1) f fd P_law_fewest sp :=
  dfn_of F sc_law_fewest len (b_law_fewest T C_law_subs C_law_fewest) ok

theorem k_law_fewest {P : Program} {w : World} {K : PySem.W.Frag} {mg : Str → Option Value} {base : Heap} {k : Nat} {f : Addr} {fd : FuncData} {sp : DSp} (T : Tx P w K mg) {sp_law_subs : DSp} {sp_law_fewest : DSp} (C_law_subs : Callee P w K mg base k "_law_subs" P_law_subs sp_law_subs) (C_law_fewest : Callee P w K mg base k "_law_fewest" P_law_fewest sp_law_fewest) 
    (F : FunD K "_law_fewest" "_law_fewest" (defArgs s_law_fewest) (defBody s_law_fewest) (defScope s_law_fewest) [] [] f fd) (hm : mg "_law_fewest" = some (.ref f)) (len : ∀ ds G Q E, sp ds G Q E → ds.length = 1)
    (ok : ∀ ds G Q E, sp ds G Q E → (r_law_fewest sp_law_subs sp_law_fewest) { nx := fun _ G' => Q .non G', rt := Q } (startD 3 ds) G) : Callee P w K mg base (k + 1) "_law_fewest" P_law_fewest sp :=
  callee_of F hm (d_law_fewest T C_law_subs C_law_fewest F len ok) (fun _ _ _ _ _ _ us hl => match us, hl with | [_], _ => rfl) (fun _ _ _ _ _ _ us hl => match us, hl with | [_], _ => rfl)

theorem z_law_fewest {P : Program} {w : World} {K : PySem.W.Frag} {mg : Str → Option Value} {base : Heap} {f : Addr} {fd : FuncData} {sp : DSp} (F : FunD K "_law_fewest" "_law_fewest" (defArgs s_law_fewest) (defBody s_law_fewest) (defScope s_law_fewest) [] [] f fd) (hm : mg "_law_fewest" = some (.ref f)) (h : ∀ ds G Q E, ¬ sp ds G Q E) : Callee P w K mg base 0 "_law_fewest" P_law_fewest sp :=
  callee0 F hm h (fun _ _ _ _ _ _ us hl => match us, hl with | [_], _ => rfl) (fun _ _ _ _ _ _ us hl => match us, hl with | [_], _ => rfl)

abbrev N_law_bounds : List Str := ["_law_feed_here", "_law_low"]
abbrev P_law_bounds : List Str := ["_law_feed_here"]

theorem sc_law_bounds : FnScope N_law_bounds P_law_bounds (defScope s_law_bounds) := ⟨rfl, rfl, rfl, by decide +kernel, rfl, by decide +kernel, by decide +kernel⟩

theorem b_law_bounds {P : Program} {w : World} {K : PySem.W.Frag} {mg : Str → Option Value} {base : Heap} {k : Nat} {f : Addr} (T : Tx P w K mg) {sp_law_draw : DSp} (C_law_draw : Callee P w K mg base k "_law_draw" P_law_draw sp_law_draw)  (cdv : Value) (A : Around) (out : List Env) (st : Shared) (H : Hp) (E : XK)
    (hr : Room k (A.deeper (PyProof.Rows.envOfC "_law_bounds" (defScope s_law_bounds) st.heap.objs.size f cdv))) (hgd : (A.deeper (PyProof.Rows.envOfC "_law_bounds" (defScope s_law_bounds) st.heap.objs.size f cdv)).guards = some []) :
    DSs (cxOf CX0 P w K mg base N_law_bounds "_law_bounds" (defScope s_law_bounds) f cdv A out st H E).nox (defBody s_law_bounds) (r_law_bounds sp_law_draw) := by
  have SC := sc_law_bounds
  have hu := hu_of hr
  have hu64 := hr.units
  have hu70 := hu70_of hr
  exact (ds_cons (ds_set (i := 1) SC.nd rfl (by first | exact Or.inl rfl | exact Or.inr rfl) (de_ix (de_frz (de_lst (da_cons de_int (da_cons de_int (da_cons de_int (da_cons de_int (da_cons de_int da_nil))))))) (dc C_law_draw hr hgd rfl (da_cons (dv 0) (da_cons de_int da_nil)))))
  (ds_one (ds_ret (de_tup (da_cons (dv 1) (da_cons (de_op o_add (dv 1) (de_ix (de_frz (de_lst (da_cons de_int (da_cons de_int (da_cons de_int (da_cons de_int da_nil)))))) (dc C_law_draw hr hgd rfl (da_cons (dv 0) (da_cons de_int da_nil))))) (da_cons (de_cmp (o_eq hu64) (dc C_law_draw hr hgd rfl (da_cons (dv 0) (da_cons de_int da_nil))) de_int (nomark _)) da_nil)))))))

theorem d_law_bounds {P : Program} {w : World} {K : PySem.W.Frag} {mg : Str → Option Value} {base : Heap} {k : Nat} {f : Addr} {fd : FuncData} {sp : DSp} (T : Tx P w K mg) {sp_law_draw : DSp} (C_law_draw : Callee P w K mg base k "_law_draw" P_law_draw sp_law_draw) 
    (F : FunD K "_law_bounds" "_law_bounds" (defArgs s_law_bounds) (defBody s_law_bounds) (defScope s_law_bounds) [] [] f fd) (len : ∀ ds G Q E, sp ds G Q E → ds.length = 1)
    (ok : ∀ ds G Q E, sp ds G Q E → (r_law_bounds sp_law_draw) { nx := fun _ G' => Q .non G', rt := Q } (startD 2 ds) G) : DFn P w K mg base (k + 1) f fd P_law_bounds sp :=
  dfn_of F sc_law_bounds len (b_law_bounds T C_law_draw) ok

theorem k_law_bounds {P : Program} {w : World} {K : PySem.W.Frag} {mg : Str → Option Value} {base : Heap} {k : Nat} {f : Addr} {fd : FuncData} {sp : DSp} (T : Tx P w K mg) {sp_law_draw : DSp} (C_law_draw : Callee P w K mg base k "_law_draw" P_law_draw sp_law_draw) 
    (F : FunD K "_law_bounds" "_law_bounds" (defArgs s_law_bounds) (defBody s_law_bounds) (defScope s_law_bounds) [] [] f fd) (hm : mg "_law_bounds" = some (.ref f)) (len : ∀ ds G Q E, sp ds G Q E → ds.length = 1)
    (ok : ∀ ds G Q E, sp ds G Q E → (r_law_bounds sp_law_draw) { nx := fun _ G' => Q .non G', rt := Q } (startD 2 ds) G) : Callee P w K mg base (k + 1) "_law_bounds" P_law_bounds sp :=
  callee_of F hm (d_law_bounds T C_law_draw F len ok) (fun _ _ _ _ _ _ us hl => match us, hl with | [_], _ => rfl) (fun _ _ _ _ _ _ us hl => match us, hl with | [_], _ => rfl)

abbrev N_law_free_work : List Str := ["_law_feed_here", "_law_deep", "_law_turn_in", "_law_size", "_law_some", "_law_k"]
abbrev P_law_free_work : List Str := ["_law_feed_here", "_law_deep"]

theorem sc_law_free_work : FnScope N_law_free_work P_law_free_work (defScope s_law_free_work) := ⟨rfl, rfl, rfl, by decide +kernel, rfl, by decide +kernel, by decide +kernel⟩

theorem b_law_free_work {P : Program} {w : World} {K : PySem.W.Frag} {mg : Str → Option Value} {base : Heap} {k : Nat} {f : Addr} (T : Tx P w K mg) {sp_law_free_work : DSp} {sp_law_draw : DSp} {sp_law_bounds : DSp} (C_law_free_work : Callee P w K mg base k "_law_free_work" P_law_free_work sp_law_free_work) (C_law_draw : Callee P w K mg base k "_law_draw" P_law_draw sp_law_draw) (C_law_bounds : Callee P w K mg base k "_law_bounds" P_law_bounds sp_law_bounds)  (cdv : Value) (A : Around) (out : List Env) (st : Shared) (H : Hp) (E : XK)
    (hr : Room k (A.deeper (PyProof.Rows.envOfC "_law_free_work" (defScope s_law_free_work) st.heap.objs.size f cdv))) (hgd : (A.deeper (PyProof.Rows.envOfC "_law_free_work" (defScope s_law_free_work) st.heap.objs.size f cdv)).guards = some []) :
    DSs (cxOf CX0 P w K mg base N_law_free_work "_law_free_work" (defScope s_law_free_work) f cdv A out st H E).nox (defBody s_law_free_work) (r_law_free_work sp_law_free_work sp_law_draw sp_law_bounds) := by
  have SC := sc_law_free_work
  have hu := hu_of hr
  have hu64 := hr.units
  have hu70 := hu70_of hr
  exact (ds_cons (ds_set (i := 2) SC.nd rfl (by first | exact Or.inl rfl | exact Or.inr rfl) (de_if (dt_cmp o_gt (dv 1) de_int (nomark _)) (dc C_law_draw hr hgd rfl (da_cons (dv 0) (da_cons de_int da_nil))) (dc C_law_draw hr hgd rfl (da_cons (dv 0) (da_cons de_int da_nil)))))
  (ds_cons (ds_if (dt_cmp o_lt (dv 2) de_int (nomark _))
  (ds_one (ds_ret (de_tup (da_cons de_str (da_cons (de_op o_add de_int (de_ix (de_frz (de_lst (da_cons de_int (da_cons de_int (da_cons de_int (da_cons de_int da_nil)))))) (dc C_law_draw hr hgd rfl (da_cons (dv 0) (da_cons de_int da_nil))))) da_nil)))))
  ds_nil)
  (ds_cons (ds_if (dt_cmp o_lt (dv 2) de_int (nomark _))
  (ds_one (ds_ret (de_op o_add (de_tup (da_cons de_str da_nil)) (dc C_law_bounds hr hgd rfl (da_cons (dv 0) da_nil)))))
  ds_nil)
  (ds_cons (ds_if (dt_cmp o_lt (dv 2) de_int (nomark _))
  (ds_one (ds_ret (de_op o_add (de_op o_add (de_tup (da_cons de_str da_nil)) (dc C_law_bounds hr hgd rfl (da_cons (dv 0) da_nil))) (de_tup (da_cons (dc C_law_free_work hr hgd rfl (da_cons (dv 0) (da_cons (de_op o_sub (dv 1) de_int) da_nil))) da_nil)))))
  ds_nil)
  (ds_cons (ds_if (dt_cmp (o_eq hu64) (dv 2) de_int (nomark _))
  (ds_one (ds_ret (de_tup (da_cons de_str (da_cons (dc C_law_free_work hr hgd rfl (da_cons (dv 0) (da_cons (de_op o_sub (dv 1) de_int) da_nil))) (da_cons (dc C_law_free_work hr hgd rfl (da_cons (dv 0) (da_cons (de_op o_sub (dv 1) de_int) da_nil))) da_nil))))))
  ds_nil)
  (ds_cons (ds_set (i := 3) SC.nd rfl (by first | exact Or.inl rfl | exact Or.inr rfl) (de_if (dt_cmp (o_eq hu64) (dv 2) de_int (nomark _)) (dc C_law_draw hr hgd rfl (da_cons (dv 0) (da_cons de_int da_nil))) (de_op o_add de_int (dc C_law_draw hr hgd rfl (da_cons (dv 0) (da_cons de_int da_nil))))))
  (ds_cons (ds_set (i := 4) SC.nd rfl (by first | exact Or.inl rfl | exact Or.inr rfl) (de_callTy c_tuple rfl T.m_tuple (by decide +kernel) (da_cons (de_frz (de_lc (own := [("_law_k", 5)]) (ct := (.one 5)) rfl SC.nd (di_range1 rfl T.m_range (da_cons (dv 3) da_nil)) (blkOk_by (by show blkC N_law_free_work (defScope s_law_free_work) _ _ = true; decide +kernel)) (by decide) (fun _ _ _ _ _ => pg_name (i := 5) SC.nd rfl (Or.inl rfl)) (fun _ _ _ _ _ => dts_nil) (fun _ _ _ _ _ => (dc C_law_free_work hr hgd rfl (da_cons (dv 0) (da_cons (de_op o_sub (dv 1) de_int) da_nil)))))) da_nil)))
  (ds_one (ds_ret (de_tup (da_cons (de_ix (de_frz (de_lst (da_cons de_str (da_cons de_str da_nil)))) (de_op o_sub (dv 2) de_int)) (da_cons (dv 4) da_nil))))))))))))

theorem d_law_free_work {P : Program} {w : World} {K : PySem.W.Frag} {mg : Str → Option Value} {base : Heap} {k : Nat} {f : Addr} {fd : FuncData} {sp : DSp} (T : Tx P w K mg) {sp_law_free_work : DSp} {sp_law_draw : DSp} {sp_law_bounds : DSp} (C_law_free_work : Callee P w K mg base k "_law_free_work" P_law_free_work sp_law_free_work) (C_law_draw : Callee P w K mg base k "_law_draw" P_law_draw sp_law_draw) (C_law_bounds : Callee P w K mg base k "_law_bounds" P_law_bounds sp_law_bounds) 
    (F : FunD K "_law_free_work" "_law_free_work" (defArgs s_law_free_work) (defBody s_law_free_work) (defScope s_law_free_work) [] [] f fd) (len : ∀ ds G Q E, sp ds G Q E → ds.length = 2)
    (ok : ∀ ds G Q E, sp ds G Q E → (r_law_free_work sp_law_free_work sp_law_draw sp_law_bounds) { nx := fun _ G' => Q .non G', rt := Q } (startD 6 ds) G) : DFn P w K mg base (k + 1) f fd P_law_free_work sp :=
  dfn_of F sc_law_free_work len (b_law_free_work T C_law_free_work C_law_draw C_law_bounds) ok

theorem k_law_free_work {P : Program} {w : World} {K : PySem.W.Frag} {mg : Str → Option Value} {base : Heap} {k : Nat} {f : Addr} {fd : FuncData} {sp : DSp} (T : Tx P w K mg) {sp_law_free_work : DSp} {sp_law_draw : DSp} {sp_law_bounds : DSp} (C_law_free_work : Callee P w K mg base k "_law_free_work" P_law_free_work sp_law_free_work) (C_law_draw : Callee P w K mg base k "_law_draw" P_law_draw sp_law_draw) (C_law_bounds : Callee P w K mg base k "_law_bounds" P_law_bounds sp_law_bounds) 
    (F : FunD K "_law_free_work" "_law_free_work" (defArgs s_law_free_work) (defBody s_law_free_work) (defScope s_law_free_work) [] [] f fd) (hm : mg "_law_free_work" = some (.ref f)) (len : ∀ ds G Q E, sp ds G Q E → ds.length = 2)
    (ok : ∀ ds G Q E, sp ds G Q E → (r_law_free_work sp_law_free_work sp_law_draw sp_law_bounds) { nx := fun _ G' => Q .non G', rt := Q } (startD 6 ds) G) : Callee P w K mg base (k + 1) "_law_free_work" P_law_free_work sp :=
  callee_of F hm (d_law_free_work T C_law_free_work C_law_draw C_law_bounds F len ok) (fun _ _ _ _ _ _ us hl => match us, hl with | [_, _], _ => rfl) (fun _ _ _ _ _ _ us hl => match us, hl with | [_, _], _ => rfl)

theorem z_law_free_work {P : Program} {w : World} {K : PySem.W.Frag} {mg : Str → Option Value} {base : Heap} {f : Addr} {fd : FuncData} {sp : DSp} (F : FunD K "_law_free_work" "_law_free_work" (defArgs s_law_free_work) (defBody s_law_free_work) (defScope s_law_free_work) [] [] f fd) (hm : mg "_law_free_work" = some (.ref f)) (h : ∀ ds G Q E, ¬ sp ds G Q E) : Callee P w K mg base 0 "_law_free_work" P_law_free_work sp :=
  callee0 F hm h (fun _ _ _ _ _ _ us hl => match us, hl with | [_, _], _ => rfl) (fun _ _ _ _ _ _ us hl => match us, hl with | [_, _], _ => rfl)

abbrev N_law_work : List Str := ["_law_feed_here", "_law_deep", "_law_item"]
abbrev P_law_work : List Str := ["_law_feed_here", "_law_deep"]

theorem sc_law_work : FnScope N_law_work P_law_work (defScope s_law_work) := ⟨rfl, rfl, rfl, by decide +kernel, rfl, by decide +kernel, by decide +kernel⟩

theorem b_law_work {P : Program} {w : World} {K : PySem.W.Frag} {mg : Str → Option Value} {base : Heap} {k : Nat} {f : Addr} (T : Tx P w K mg) {sp_law_fewest : DSp} {sp_law_free_work : DSp} (C_law_fewest : Callee P w K mg base k "_law_fewest" P_law_fewest sp_law_fewest) (C_law_free_work : Callee P w K mg base k "_law_free_work" P_law_free_work sp_law_free_work)  (cdv : Value) (A : Around) (out : List Env) (st : Shared) (H : Hp) (E : XK)
    (hr : Room k (A.deeper (PyProof.Rows.envOfC "_law_work" (defScope s_law_work) st.heap.objs.size f cdv))) (hgd : (A.deeper (PyProof.Rows.envOfC "_law_work" (defScope s_law_work) st.heap.objs.size f cdv)).guards = some []) :
    DSs (cxOf CX0 P w K mg base N_law_work "_law_work" (defScope s_law_work) f cdv A out st H E).nox (defBody s_law_work) (r_law_work sp_law_fewest sp_law_free_work) := by
  have SC := sc_law_work
  have hu := hu_of hr
  have hu64 := hr.units
  have hu70 := hu70_of hr
  exact (ds_cons (ds_set (i := 2) SC.nd rfl (by first | exact Or.inl rfl | exact Or.inr rfl) (dc C_law_free_work hr hgd rfl (da_cons (dv 0) (da_cons (dv 1) da_nil))))
  (ds_one (ds_ret (de_if (dt_cmp o_gt (dc C_law_fewest hr hgd rfl (da_cons (dv 2) da_nil)) de_int (nomark _)) (dv 2) (de_tup (da_cons de_str (da_cons (de_tup (da_cons (de_tup (da_cons de_str (da_cons de_int da_nil))) (da_cons (dv 2) da_nil))) da_nil)))))))

theorem d_law_work {P : Program} {w : World} {K : PySem.W.Frag} {mg : Str → Option Value} {base : Heap} {k : Nat} {f : Addr} {fd : FuncData} {sp : DSp} (T : Tx P w K mg) {sp_law_fewest : DSp} {sp_law_free_work : DSp} (C_law_fewest : Callee P w K mg base k "_law_fewest" P_law_fewest sp_law_fewest) (C_law_free_work : Callee P w K mg base k "_law_free_work" P_law_free_work sp_law_free_work) 
    (F : FunD K "_law_work" "_law_work" (defArgs s_law_work) (defBody s_law_work) (defScope s_law_work) [] [] f fd) (len : ∀ ds G Q E, sp ds G Q E → ds.length = 2)
    (ok : ∀ ds G Q E, sp ds G Q E → (r_law_work sp_law_fewest sp_law_free_work) { nx := fun _ G' => Q .non G', rt := Q } (startD 3 ds) G) : DFn P w K mg base (k + 1) f fd P_law_work sp :=
  dfn_of F sc_law_work len (b_law_work T C_law_fewest C_law_free_work) ok

theorem k_law_work {P : Program} {w : World} {K : PySem.W.Frag} {mg : Str → Option Value} {base : Heap} {k : Nat} {f : Addr} {fd : FuncData} {sp : DSp} (T : Tx P w K mg) {sp_law_fewest : DSp} {sp_law_free_work : DSp} (C_law_fewest : Callee P w K mg base k "_law_fewest" P_law_fewest sp_law_fewest) (C_law_free_work : Callee P w K mg base k "_law_free_work" P_law_free_work sp_law_free_work) 
    (F : FunD K "_law_work" "_law_work" (defArgs s_law_work) (defBody s_law_work) (defScope s_law_work) [] [] f fd) (hm : mg "_law_work" = some (.ref f)) (len : ∀ ds G Q E, sp ds G Q E → ds.length = 2)
    (ok : ∀ ds G Q E, sp ds G Q E → (r_law_work sp_law_fewest sp_law_free_work) { nx := fun _ G' => Q .non G', rt := Q } (startD 3 ds) G) : Callee P w K mg base (k + 1) "_law_work" P_law_work sp :=
  callee_of F hm (d_law_work T C_law_fewest C_law_free_work F len ok) (fun _ _ _ _ _ _ us hl => match us, hl with | [_, _], _ => rfl) (fun _ _ _ _ _ _ us hl => match us, hl with | [_, _], _ => rfl)

abbrev N_law_first : List Str := []
abbrev P_law_first : List Str := []

theorem sc_law_first : FnScope N_law_first P_law_first (defScope s_law_first) := ⟨rfl, rfl, rfl, by decide +kernel, rfl, by decide +kernel, by decide +kernel⟩

theorem b_law_first {P : Program} {w : World} {K : PySem.W.Frag} {mg : Str → Option Value} {base : Heap} {k : Nat} {f : Addr} (T : Tx P w K mg)    (cdv : Value) (A : Around) (out : List Env) (st : Shared) (H : Hp) (E : XK)
    (hr : Room k (A.deeper (PyProof.Rows.envOfC "_law_first" (defScope s_law_first) st.heap.objs.size f cdv))) (hgd : (A.deeper (PyProof.Rows.envOfC "_law_first" (defScope s_law_first) st.heap.objs.size f cdv)).guards = some []) :
    DSs (cxOf CX0 P w K mg base N_law_first "_law_first" (defScope s_law_first) f cdv A out st H E).nox (defBody s_law_first) (r_law_first) := by
  have SC := sc_law_first
  have hu := hu_of hr
  have hu64 := hr.units
  have hu70 := hu70_of hr
  exact (ds_one (ds_ret (de_tup (da_cons de_str (da_cons (de_tup (da_cons (de_tup (da_cons de_str (da_cons de_int da_nil))) (da_cons (de_tup (da_cons de_str (da_cons de_int (da_cons de_int (da_cons de_bl (da_cons (de_tup (da_cons de_str (da_cons de_int da_nil))) da_nil)))))) da_nil))) da_nil)))))

theorem d_law_first {P : Program} {w : World} {K : PySem.W.Frag} {mg : Str → Option Value} {base : Heap} {k : Nat} {f : Addr} {fd : FuncData} {sp : DSp} (T : Tx P w K mg)   
    (F : FunD K "_law_first" "_law_first" (defArgs s_law_first) (defBody s_law_first) (defScope s_law_first) [] [] f fd) (len : ∀ ds G Q E, sp ds G Q E → ds.length = 0)
    (ok : ∀ ds G Q E, sp ds G Q E → (r_law_first) { nx := fun _ G' => Q .non G', rt := Q } (startD 0 ds) G) : DFn P w K mg base (k + 1) f fd P_law_first sp :=
  dfn_of F sc_law_first len (b_law_first T) ok

theorem k_law_first {P : Program} {w : World} {K : PySem.W.Frag} {mg : Str → Option Value} {base : Heap} {k : Nat} {f : Addr} {fd : FuncData} {sp : DSp} (T : Tx P w K mg)   
    (F : FunD K "_law_first" "_law_first" (defArgs s_law_first) (defBody s_law_first) (defScope s_law_first) [] [] f fd) (hm : mg "_law_first" = some (.ref f)) (len : ∀ ds G Q E, sp ds G Q E → ds.length = 0)
    (ok : ∀ ds G Q E, sp ds G Q E → (r_law_first) { nx := fun _ G' => Q .non G', rt := Q } (startD 0 ds) G) : Callee P w K mg base (k + 1) "_law_first" P_law_first sp :=
  callee_of F hm (d_law_first T F len ok) (fun _ _ _ _ _ _ us hl => match us, hl with | [], _ => rfl) (fun _ _ _ _ _ _ us hl => match us, hl with | [], _ => rfl)

abbrev N_law_second : List Str := ["_law_some", "_law_low", "_law_high"]
abbrev P_law_second : List Str := []

theorem sc_law_second : FnScope N_law_second P_law_second (defScope s_law_second) := ⟨rfl, rfl, rfl, by decide +kernel, rfl, by decide +kernel, by decide +kernel⟩

theorem b_law_second {P : Program} {w : World} {K : PySem.W.Frag} {mg : Str → Option Value} {base : Heap} {k : Nat} {f : Addr} (T : Tx P w K mg)    (cdv : Value) (A : Around) (out : List Env) (st : Shared) (H : Hp) (E : XK)
    (hr : Room k (A.deeper (PyProof.Rows.envOfC "_law_second" (defScope s_law_second) st.heap.objs.size f cdv))) (hgd : (A.deeper (PyProof.Rows.envOfC "_law_second" (defScope s_law_second) st.heap.objs.size f cdv)).guards = some []) :
    DSs (cxOf CX0 P w K mg base N_law_second "_law_second" (defScope s_law_second) f cdv A out st H E).nox (defBody s_law_second) (r_law_second) := by
  have SC := sc_law_second
  have hu := hu_of hr
  have hu64 := hr.units
  have hu70 := hu70_of hr
  exact (ds_cons (ds_set (i := 0) SC.nd rfl (by first | exact Or.inl rfl | exact Or.inr rfl) (de_tup (da_cons de_str (da_cons de_int (da_cons de_int (da_cons de_bl da_nil))))))
  (ds_cons (ds_set (i := 1) SC.nd rfl (by first | exact Or.inl rfl | exact Or.inr rfl) (de_tup (da_cons de_str (da_cons de_int (da_cons de_int (da_cons de_bl (da_cons (de_tup (da_cons de_str (da_cons de_int (da_cons de_int (da_cons de_bl da_nil))))) da_nil)))))))
  (ds_cons (ds_set (i := 2) SC.nd rfl (by first | exact Or.inl rfl | exact Or.inr rfl) (de_tup (da_cons de_str (da_cons (de_tup (da_cons (de_tup (da_cons de_str (da_cons de_int (da_cons de_int (da_cons de_bl (da_cons (de_tup (da_cons de_str (da_cons (de_tup (da_cons de_str (da_cons de_int da_nil))) (da_cons (de_tup (da_cons de_str (da_cons (de_tup da_nil) da_nil))) da_nil)))) da_nil)))))) (da_cons (de_tup (da_cons de_str (da_cons de_int da_nil))) (da_cons (dv 0) da_nil)))) da_nil))))
  (ds_one (ds_ret (de_tup (da_cons de_str (da_cons (de_tup (da_cons de_str (da_cons (de_tup (da_cons (de_tup (da_cons de_str (da_cons de_int da_nil))) (da_cons (de_tup (da_cons de_str (da_cons (de_tup da_nil) da_nil))) (da_cons (dv 0) da_nil)))) da_nil))) (da_cons (de_tup (da_cons de_str (da_cons (de_tup (da_cons (dv 1) (da_cons (de_tup (da_cons de_str (da_cons de_int da_nil))) (da_cons (dv 2) da_nil)))) da_nil))) da_nil)))))))))

theorem d_law_second {P : Program} {w : World} {K : PySem.W.Frag} {mg : Str → Option Value} {base : Heap} {k : Nat} {f : Addr} {fd : FuncData} {sp : DSp} (T : Tx P w K mg)   
    (F : FunD K "_law_second" "_law_second" (defArgs s_law_second) (defBody s_law_second) (defScope s_law_second) [] [] f fd) (len : ∀ ds G Q E, sp ds G Q E → ds.length = 0)
    (ok : ∀ ds G Q E, sp ds G Q E → (r_law_second) { nx := fun _ G' => Q .non G', rt := Q } (startD 3 ds) G) : DFn P w K mg base (k + 1) f fd P_law_second sp :=
  dfn_of F sc_law_second len (b_law_second T) ok

theorem k_law_second {P : Program} {w : World} {K : PySem.W.Frag} {mg : Str → Option Value} {base : Heap} {k : Nat} {f : Addr} {fd : FuncData} {sp : DSp} (T : Tx P w K mg)   
    (F : FunD K "_law_second" "_law_second" (defArgs s_law_second) (defBody s_law_second) (defScope s_law_second) [] [] f fd) (hm : mg "_law_second" = some (.ref f)) (len : ∀ ds G Q E, sp ds G Q E → ds.length = 0)
    (ok : ∀ ds G Q E, sp ds G Q E → (r_law_second) { nx := fun _ G' => Q .non G', rt := Q } (startD 3 ds) G) : Callee P w K mg base (k + 1) "_law_second" P_law_second sp :=
  callee_of F hm (d_law_second T F len ok) (fun _ _ _ _ _ _ us hl => match us, hl with | [], _ => rfl) (fun _ _ _ _ _ _ us hl => match us, hl with | [], _ => rfl)

abbrev N_law_heard : List Str := ["_law_ask", "e_in", "_law_families", "_law_good"]
abbrev P_law_heard : List Str := ["_law_ask"]

theorem sc_law_heard : FnScope N_law_heard P_law_heard (defScope s_law_heard) := ⟨rfl, rfl, rfl, by decide +kernel, rfl, by decide +kernel, by decide +kernel⟩

theorem b_law_heard {P : Program} {w : World} {K : PySem.W.Frag} {mg : Str → Option Value} {base : Heap} {k : Nat} {g : Addr} (T : Tx P w K mg)         (cdv : Value) (A : Around) (out : List Env) (st : Shared) (H : Hp) (α : Dl.Act)
    (hr : Room (k + 1) (A.deeper (PyProof.Rows.envOfC "_law_heard" (defScope s_law_heard) st.heap.objs.size g cdv))) (hgd : (A.deeper (PyProof.Rows.envOfC "_law_heard" (defScope s_law_heard) st.heap.objs.size g cdv)).guards = some [])
    (act : ∀ (W : WX) (pn : List (Addr × Obj)) (xe : Value → Shared → Prop) (p1 p2 : Pos), Takes ((cxOf CX0 P w K mg base N_law_heard "_law_heard" (defScope s_law_heard) g cdv A out st H E0).tr pn xe) W → XE1 ((cxOf CX0 P w K mg base N_law_heard "_law_heard" (defScope s_law_heard) g cdv A out st H E0).tr pn xe) W (.Call (.Name "_law_ask" p1) [] [] p2) (xAct 0 α)) :
    DSs (cxOf CX0 P w K mg base N_law_heard "_law_heard" (defScope s_law_heard) g cdv A out st H E0).nox (defBody s_law_heard) (r_law_heard α) := by
  have SC := sc_law_heard
  have hu := hu_of hr
  have hu64 := hr.units
  have hu70 := hu70_of hr
  exact (ds_one (ds_try T.et rfl rfl SC.nd rfl (i := 1) rfl rfl T.g_BarError (by decide) (fun W pn xe tk _ => (xs_one (xs_ret (xe_tup (xa_cons (xe_p de_str) (xa_cons (act W pn xe _ _ tk) (xa_p da_nil))))))) (fun a oe c d pn hz hf =>
  (ds_cons (ds_set (i := 2) SC.nd rfl (by first | exact Or.inl rfl | exact Or.inr rfl) (de_lst (da_cons (de_isX T.et hz hf rfl T.m_isinstance rfl T.g_PaperError (dv 1)) (da_cons (de_isX T.et hz hf rfl T.m_isinstance rfl T.g_WorkError (dv 1)) da_nil))))
  (ds_cons (ds_expr (de_extend (dv 2) (de_frz (de_lst (da_cons (de_isX T.et hz hf rfl T.m_isinstance rfl T.g_LiveError (dv 1)) (da_cons (de_isX T.et hz hf rfl T.m_isinstance rfl T.g_TextError (dv 1)) da_nil))))))
  (ds_cons (ds_if (dt_w (dw_and (dt_cmp (o_eq hu64) (dv 2) (de_frz (de_lst (da_cons de_bl (da_cons de_bl (da_cons de_bl (da_cons de_bl da_nil)))))) (nomark _)) (dw_and1 (dt_tru (de_isX T.et hz hf rfl T.m_isinstance rfl T.g_InvalidPaper (dv 1))))))
  (ds_one (ds_ret (de_tup (da_cons de_str (da_cons (de_exfA T.et hz hf (dv 1)) (da_cons (de_exfA T.et hz hf (dv 1)) da_nil))))))
  ds_nil)
  (ds_cons (ds_if (dt_cmp (o_eq hu64) (dv 2) (de_frz (de_lst (da_cons de_bl (da_cons de_bl (da_cons de_bl (da_cons de_bl da_nil)))))) (nomark _))
  (ds_cons (ds_set (i := 3) SC.nd rfl (by first | exact Or.inl rfl | exact Or.inr rfl) (de_and (de_isX T.et hz hf rfl T.m_isinstance rfl T.g_InvalidText (dv 1)) (de_one (de_not (de_isX T.et hz hf rfl T.m_isinstance rfl T.g_InvalidRow (dv 1))))))
  (ds_one (ds_ret (de_if (dt_tru (dv 3)) (de_tup (da_cons de_str (da_cons (de_exfA T.et hz hf (dv 1)) (da_cons (de_exfA T.et hz hf (dv 1)) da_nil)))) (de_tup (da_cons de_str da_nil))))))
  ds_nil)
  (ds_cons (ds_if (dt_w (dw_or (dt_cmp (o_ne hu64) (dv 2) (de_frz (de_lst (da_cons de_bl (da_cons de_bl (da_cons de_bl (da_cons de_bl da_nil)))))) (nomark _)) (dw_or1 (dt_tru (de_isX T.et hz hf rfl T.m_isinstance rfl T.g_NotNext (dv 1))))))
  (ds_one (ds_ret (de_tup (da_cons de_str da_nil))))
  ds_nil)
  (ds_one (ds_ret (de_if (dt_tru (de_isX T.et hz hf rfl T.m_isinstance rfl T.g_NotUsable (dv 1))) (de_tup (da_cons de_str (da_cons (de_exfA T.et hz hf (dv 1)) (da_cons (de_exfA T.et hz hf (dv 1)) da_nil)))) (de_tup (da_cons de_str da_nil)))))))))))))

theorem k_law_heard {P : Program} {w : World} {K : PySem.W.Frag} {mg : Str → Option Value} {base : Heap} {k : Nat} {g : Addr} {fd : FuncData} (T : Tx P w K mg)        
    (F : FunD K "_law_heard" "_law_heard" (defArgs s_law_heard) (defBody s_law_heard) (defScope s_law_heard) [] [] g fd) (hm : mg "_law_heard" = some (.ref g)) : Hearer P w K mg base k "_law_heard" r_law_heard 4 :=
  hearer_of F hm sc_law_heard rfl (by first | exact Or.inl rfl | exact Or.inr (Or.inl rfl)) (b_law_heard T) (fun _ _ _ _ _ _ us hl => match us, hl with | [_], _ => rfl)

abbrev N_law_strays_in : List Str := ["_law_spots", "_law_found", "_law_spot_in", "_law_known", "_law_own"]
abbrev P_law_strays_in : List Str := ["_law_spots"]

theorem sc_law_strays_in : FnScope N_law_strays_in P_law_strays_in (defScope s_law_strays_in) := ⟨rfl, rfl, rfl, by decide +kernel, rfl, by decide +kernel, by decide +kernel⟩

theorem b_law_strays_in {P : Program} {w : World} {K : PySem.W.Frag} {mg : Str → Option Value} {base : Heap} {k : Nat} {f : Addr} (T : Tx P w K mg)    (cdv : Value) (A : Around) (out : List Env) (st : Shared) (H : Hp) (E : XK)
    (hr : Room k (A.deeper (PyProof.Rows.envOfC "_law_strays_in" (defScope s_law_strays_in) st.heap.objs.size f cdv))) (hgd : (A.deeper (PyProof.Rows.envOfC "_law_strays_in" (defScope s_law_strays_in) st.heap.objs.size f cdv)).guards = some []) :
    DSs (cxOf CX0 P w K mg base N_law_strays_in "_law_strays_in" (defScope s_law_strays_in) f cdv A out st H E).nox (defBody s_law_strays_in) (r_law_strays_in) := by
  have SC := sc_law_strays_in
  have hu := hu_of hr
  have hu64 := hr.units
  have hu70 := hu70_of hr
  exact (ds_cons (ds_set (i := 1) SC.nd rfl (by first | exact Or.inl rfl | exact Or.inr rfl) (de_lst (da_cons de_non (da_cons de_int (da_cons de_bl (da_cons de_str (da_cons (de_frz (de_lst da_nil)) (da_cons de_str (da_cons (de_tup (da_cons (de_neg de_int) da_nil)) (da_cons (de_tup (da_cons de_non da_nil)) (da_cons (de_tup (da_cons de_bl da_nil)) (da_cons (de_tup (da_cons de_str da_nil)) (da_cons (de_tup (da_cons de_int da_nil)) (da_cons (de_tup (da_cons (de_tup (da_cons de_int da_nil)) da_nil)) (da_cons (de_tup (da_cons (de_op o_pow de_int de_int) da_nil)) (da_cons (de_frz (de_lst (da_cons de_int da_nil))) da_nil))))))))))))))))
  (ds_cons (ds_for PassesOwn.never rfl (di_seq (dv 0)) (dg_name (i := 2) SC.nd rfl (by first | exact Or.inl rfl | exact Or.inr rfl))
  (ds_one (ds_expr (de_extend (dv 1) (de_frz (de_lst (da_cons (de_op o_add (dv 2) (de_tup (da_cons de_int da_nil))) (da_cons (de_op o_add (dv 2) (de_tup (da_cons de_bl da_nil))) (da_cons (de_op o_add (dv 2) (de_tup (da_cons de_int da_nil))) (da_cons (de_frz (de_callTy c_list rfl T.m_list (by decide +kernel) (da_cons (dv 2) da_nil))) da_nil))))))))))
  (ds_cons (ds_set (i := 3) SC.nd rfl (by first | exact Or.inl rfl | exact Or.inr rfl) (de_frz (de_lc (own := [("_law_spot_in", 2)]) (ct := (.one 2)) rfl SC.nd (di_seq (dv 0)) (blkOk_by (by show blkC N_law_strays_in (defScope s_law_strays_in) _ _ = true; decide +kernel)) (by decide) (fun _ _ _ _ _ => pg_name (i := 2) SC.nd rfl (Or.inl rfl)) (fun _ _ _ _ _ => dts_nil) (fun _ _ _ _ _ => (de_callB (c_reprA hgd hu70) rfl T.m_repr (by decide +kernel) (da_cons (dv 2) da_nil))))))
  (ds_one (ds_ret (de_frz (de_lc (own := [("_law_own", 4)]) (ct := (.one 4)) rfl SC.nd (di_seq (dv 1)) (blkOk_by (by show blkC N_law_strays_in (defScope s_law_strays_in) _ _ = true; decide +kernel)) (by decide) (fun _ _ _ _ _ => pg_name (i := 4) SC.nd rfl (Or.inl rfl)) (fun _ _ _ _ _ => (dts_one (dt_cmp o_notin (de_callB (c_reprA hgd hu70) rfl T.m_repr (by decide +kernel) (da_cons (dv 4) da_nil)) (dv 3) rfl))) (fun _ _ _ _ _ => (dv 4)))))))))

theorem d_law_strays_in {P : Program} {w : World} {K : PySem.W.Frag} {mg : Str → Option Value} {base : Heap} {k : Nat} {f : Addr} {fd : FuncData} {sp : DSp} (T : Tx P w K mg)   
    (F : FunD K "_law_strays_in" "_law_strays_in" (defArgs s_law_strays_in) (defBody s_law_strays_in) (defScope s_law_strays_in) [] [] f fd) (len : ∀ ds G Q E, sp ds G Q E → ds.length = 1)
    (ok : ∀ ds G Q E, sp ds G Q E → (r_law_strays_in) { nx := fun _ G' => Q .non G', rt := Q } (startD 5 ds) G) : DFn P w K mg base (k + 1) f fd P_law_strays_in sp :=
  dfn_of F sc_law_strays_in len (b_law_strays_in T) ok

theorem k_law_strays_in {P : Program} {w : World} {K : PySem.W.Frag} {mg : Str → Option Value} {base : Heap} {k : Nat} {f : Addr} {fd : FuncData} {sp : DSp} (T : Tx P w K mg)   
    (F : FunD K "_law_strays_in" "_law_strays_in" (defArgs s_law_strays_in) (defBody s_law_strays_in) (defScope s_law_strays_in) [] [] f fd) (hm : mg "_law_strays_in" = some (.ref f)) (len : ∀ ds G Q E, sp ds G Q E → ds.length = 1)
    (ok : ∀ ds G Q E, sp ds G Q E → (r_law_strays_in) { nx := fun _ G' => Q .non G', rt := Q } (startD 5 ds) G) : Callee P w K mg base (k + 1) "_law_strays_in" P_law_strays_in sp :=
  callee_of F hm (d_law_strays_in T F len ok) (fun _ _ _ _ _ _ us hl => match us, hl with | [_], _ => rfl) (fun _ _ _ _ _ _ us hl => match us, hl with | [_], _ => rfl)

abbrev N_law_loops : List Str := ["_law_item", "_law_spot_in", "_law_own"]
abbrev P_law_loops : List Str := ["_law_item"]

theorem sc_law_loops : FnScope N_law_loops P_law_loops (defScope s_law_loops) := ⟨rfl, rfl, rfl, by decide +kernel, rfl, by decide +kernel, by decide +kernel⟩

theorem b_law_loops {P : Program} {w : World} {K : PySem.W.Frag} {mg : Str → Option Value} {base : Heap} {k : Nat} {f : Addr} (T : Tx P w K mg) {sp_law_all : DSp} (C_law_all : Callee P w K mg base k "_law_all" P_law_all sp_law_all)  (cdv : Value) (A : Around) (out : List Env) (st : Shared) (H : Hp) (E : XK)
    (hr : Room k (A.deeper (PyProof.Rows.envOfC "_law_loops" (defScope s_law_loops) st.heap.objs.size f cdv))) (hgd : (A.deeper (PyProof.Rows.envOfC "_law_loops" (defScope s_law_loops) st.heap.objs.size f cdv)).guards = some []) :
    DSs (cxOf CX0 P w K mg base N_law_loops "_law_loops" (defScope s_law_loops) f cdv A out st H E).nox (defBody s_law_loops) (r_law_loops sp_law_all) := by
  have SC := sc_law_loops
  have hu := hu_of hr
  have hu64 := hr.units
  have hu70 := hu70_of hr
  exact (ds_one (ds_ret (de_frz (de_lc (own := [("_law_spot_in", 1), ("_law_own", 2)]) (ct := (.tup [1, 2])) rfl SC.nd (di_seq (dc C_law_all hr hgd rfl (da_cons (dv 0) (da_cons (de_tup da_nil) da_nil)))) (blkOk_by (by show blkC N_law_loops (defScope s_law_loops) _ _ = true; decide +kernel)) (by decide) (fun _ _ _ _ _ => pg_tup rfl (pgs_cons (pg_name (i := 1) SC.nd rfl (Or.inl rfl)) (pgs_cons (pg_name (i := 2) SC.nd rfl (Or.inl rfl)) pgs_nil))) (fun _ _ _ _ _ => (dts_one (dt_cmp o_in (de_ix (dv 2) de_int) (de_tup (da_cons de_str (da_cons de_str da_nil))) rfl))) (fun _ _ _ _ _ => (dv 1))))))

theorem d_law_loops {P : Program} {w : World} {K : PySem.W.Frag} {mg : Str → Option Value} {base : Heap} {k : Nat} {f : Addr} {fd : FuncData} {sp : DSp} (T : Tx P w K mg) {sp_law_all : DSp} (C_law_all : Callee P w K mg base k "_law_all" P_law_all sp_law_all) 
    (F : FunD K "_law_loops" "_law_loops" (defArgs s_law_loops) (defBody s_law_loops) (defScope s_law_loops) [] [] f fd) (len : ∀ ds G Q E, sp ds G Q E → ds.length = 1)
    (ok : ∀ ds G Q E, sp ds G Q E → (r_law_loops sp_law_all) { nx := fun _ G' => Q .non G', rt := Q } (startD 3 ds) G) : DFn P w K mg base (k + 1) f fd P_law_loops sp :=
  dfn_of F sc_law_loops len (b_law_loops T C_law_all) ok

theorem k_law_loops {P : Program} {w : World} {K : PySem.W.Frag} {mg : Str → Option Value} {base : Heap} {k : Nat} {f : Addr} {fd : FuncData} {sp : DSp} (T : Tx P w K mg) {sp_law_all : DSp} (C_law_all : Callee P w K mg base k "_law_all" P_law_all sp_law_all) 
    (F : FunD K "_law_loops" "_law_loops" (defArgs s_law_loops) (defBody s_law_loops) (defScope s_law_loops) [] [] f fd) (hm : mg "_law_loops" = some (.ref f)) (len : ∀ ds G Q E, sp ds G Q E → ds.length = 1)
    (ok : ∀ ds G Q E, sp ds G Q E → (r_law_loops sp_law_all) { nx := fun _ G' => Q .non G', rt := Q } (startD 3 ds) G) : Callee P w K mg base (k + 1) "_law_loops" P_law_loops sp :=
  callee_of F hm (d_law_loops T C_law_all F len ok) (fun _ _ _ _ _ _ us hl => match us, hl with | [_], _ => rfl) (fun _ _ _ _ _ _ us hl => match us, hl with | [_], _ => rfl)

abbrev N_law_told : List Str := ["_law_item", "_law_spot_in", "_law_told_here", "_law_own", "_law_one", "_law_late"]
abbrev P_law_told : List Str := ["_law_item", "_law_spot_in", "_law_told_here"]

theorem sc_law_told : FnScope N_law_told P_law_told (defScope s_law_told) := ⟨rfl, rfl, rfl, by decide +kernel, rfl, by decide +kernel, by decide +kernel⟩

theorem b_law_told {P : Program} {w : World} {K : PySem.W.Frag} {mg : Str → Option Value} {base : Heap} {k : Nat} {f : Addr} (T : Tx P w K mg) {sp_law_put : DSp} {sp_law_all : DSp} (C_law_put : Callee P w K mg base k "_law_put" P_law_put sp_law_put) (C_law_all : Callee P w K mg base k "_law_all" P_law_all sp_law_all)  (cdv : Value) (A : Around) (out : List Env) (st : Shared) (H : Hp) (E : XK)
    (hr : Room k (A.deeper (PyProof.Rows.envOfC "_law_told" (defScope s_law_told) st.heap.objs.size f cdv))) (hgd : (A.deeper (PyProof.Rows.envOfC "_law_told" (defScope s_law_told) st.heap.objs.size f cdv)).guards = some []) :
    DSs (cxOf CX0 P w K mg base N_law_told "_law_told" (defScope s_law_told) f cdv A out st H E).nox (defBody s_law_told) (r_law_told sp_law_put sp_law_all) := by
  have SC := sc_law_told
  have hu := hu_of hr
  have hu64 := hr.units
  have hu70 := hu70_of hr
  exact (ds_cons (ds_set (i := 3) SC.nd rfl (by first | exact Or.inl rfl | exact Or.inr rfl) (de_dget hu (de_callTy (c_dictP rfl) rfl T.m_dict (by decide +kernel) (da_cons (de_frz (de_lc (own := [("_law_one", 4), ("_law_late", 5)]) (ct := (.tup [4, 5])) rfl SC.nd (di_seq (dc C_law_all hr hgd rfl (da_cons (dv 0) (da_cons (de_tup da_nil) da_nil)))) (blkOk_by (by show blkC N_law_told (defScope s_law_told) _ _ = true; decide +kernel)) (by decide) (fun _ _ _ _ _ => pg_tup rfl (pgs_cons (pg_name (i := 4) SC.nd rfl (Or.inl rfl)) (pgs_cons (pg_name (i := 5) SC.nd rfl (Or.inl rfl)) pgs_nil))) (fun _ _ _ _ _ => dts_nil) (fun _ _ _ _ _ => (de_tup (da_cons (de_callB (c_repr hgd hu70) rfl T.m_repr (by decide +kernel) (da_cons (dv 4) da_nil)) (da_cons (dv 5) da_nil)))))) da_nil)) (de_callB (c_repr hgd hu70) rfl T.m_repr (by decide +kernel) (da_cons (dv 1) da_nil))))
  (ds_one (ds_ret (dc C_law_put hr hgd rfl (da_cons (dv 0) (da_cons (dv 1) (da_cons (de_op o_add (de_op o_add (de_slice (dv 3) do_none (do_some de_int)) (de_tup (da_cons (dv 2) da_nil))) (de_slice (dv 3) (do_some de_int) do_none)) da_nil)))))))

theorem d_law_told {P : Program} {w : World} {K : PySem.W.Frag} {mg : Str → Option Value} {base : Heap} {k : Nat} {f : Addr} {fd : FuncData} {sp : DSp} (T : Tx P w K mg) {sp_law_put : DSp} {sp_law_all : DSp} (C_law_put : Callee P w K mg base k "_law_put" P_law_put sp_law_put) (C_law_all : Callee P w K mg base k "_law_all" P_law_all sp_law_all) 
    (F : FunD K "_law_told" "_law_told" (defArgs s_law_told) (defBody s_law_told) (defScope s_law_told) [] [] f fd) (len : ∀ ds G Q E, sp ds G Q E → ds.length = 3)
    (ok : ∀ ds G Q E, sp ds G Q E → (r_law_told sp_law_put sp_law_all) { nx := fun _ G' => Q .non G', rt := Q } (startD 6 ds) G) : DFn P w K mg base (k + 1) f fd P_law_told sp :=
  dfn_of F sc_law_told len (b_law_told T C_law_put C_law_all) ok

theorem k_law_told {P : Program} {w : World} {K : PySem.W.Frag} {mg : Str → Option Value} {base : Heap} {k : Nat} {f : Addr} {fd : FuncData} {sp : DSp} (T : Tx P w K mg) {sp_law_put : DSp} {sp_law_all : DSp} (C_law_put : Callee P w K mg base k "_law_put" P_law_put sp_law_put) (C_law_all : Callee P w K mg base k "_law_all" P_law_all sp_law_all) 
    (F : FunD K "_law_told" "_law_told" (defArgs s_law_told) (defBody s_law_told) (defScope s_law_told) [] [] f fd) (hm : mg "_law_told" = some (.ref f)) (len : ∀ ds G Q E, sp ds G Q E → ds.length = 3)
    (ok : ∀ ds G Q E, sp ds G Q E → (r_law_told sp_law_put sp_law_all) { nx := fun _ G' => Q .non G', rt := Q } (startD 6 ds) G) : Callee P w K mg base (k + 1) "_law_told" P_law_told sp :=
  callee_of F hm (d_law_told T C_law_put C_law_all F len ok) (fun _ _ _ _ _ _ us hl => match us, hl with | [_, _, _], _ => rfl) (fun _ _ _ _ _ _ us hl => match us, hl with | [_, _, _], _ => rfl)

abbrev N_law_right : List Str := ["_law_feed_here", "_law_item", "_law_spots", "_law_spot_in", "_law_own", "_law_one", "_law_late", "_law_got", "_law_low", "_law_high", "_law_turn", "_law_some", "_law_k"]
abbrev P_law_right : List Str := ["_law_feed_here", "_law_item"]

theorem sc_law_right : FnScope N_law_right P_law_right (defScope s_law_right) := ⟨rfl, rfl, rfl, by decide +kernel, rfl, by decide +kernel, by decide +kernel⟩

theorem b_law_right {P : Program} {w : World} {K : PySem.W.Frag} {mg : Str → Option Value} {base : Heap} {k : Nat} {f : Addr} (T : Tx P w K mg) {sp_told_at : DSp} {sp_law_told : DSp} {sp_law_draw : DSp} {sp_with_bounds : DSp} {sp_law_put : DSp} {sp_told_last : DSp} {sp_told_first : DSp} {sp_bounds_of : DSp} {sp_law_all : DSp} {sp_loops_of : DSp} {sp_law_loops : DSp} (C_told_at : Callee P w K mg base k "told_at" P_told_at sp_told_at) (C_law_told : Callee P w K mg base k "_law_told" P_law_told sp_law_told) (C_law_draw : Callee P w K mg base k "_law_draw" P_law_draw sp_law_draw) (C_with_bounds : Callee P w K mg base k "with_bounds" P_with_bounds sp_with_bounds) (C_law_put : Callee P w K mg base k "_law_put" P_law_put sp_law_put) (C_told_last : Callee P w K mg base k "told_last" P_told_last sp_told_last) (C_told_first : Callee P w K mg base k "told_first" P_told_first sp_told_first) (C_bounds_of : Callee P w K mg base k "bounds_of" P_bounds_of sp_bounds_of) (C_law_all : Callee P w K mg base k "_law_all" P_law_all sp_law_all) (C_loops_of : Callee P w K mg base k "loops_of" P_loops_of sp_loops_of) (C_law_loops : Callee P w K mg base k "_law_loops" P_law_loops sp_law_loops)  (cdv : Value) (A : Around) (out : List Env) (st : Shared) (H : Hp) (E : XK)
    (hr : Room k (A.deeper (PyProof.Rows.envOfC "_law_right" (defScope s_law_right) st.heap.objs.size f cdv))) (hgd : (A.deeper (PyProof.Rows.envOfC "_law_right" (defScope s_law_right) st.heap.objs.size f cdv)).guards = some []) :
    DSs (cxOf CX0 P w K mg base N_law_right "_law_right" (defScope s_law_right) f cdv A out st H E).nox (defBody s_law_right) (r_law_right sp_told_at sp_law_told sp_law_draw sp_with_bounds sp_law_put sp_told_last sp_told_first sp_bounds_of sp_law_all sp_loops_of sp_law_loops) := by
  have SC := sc_law_right
  have hu := hu_of hr
  have hu64 := hr.units
  have hu70 := hu70_of hr
  exact (ds_cons (ds_set (i := 2) SC.nd rfl (by first | exact Or.inl rfl | exact Or.inr rfl) (dc C_law_loops hr hgd rfl (da_cons (dv 1) da_nil)))
  (ds_cons (ds_if (dt_cmp (o_ne hu64) (de_callB (c_repr hgd hu70) rfl T.m_repr (by decide +kernel) (da_cons (dc C_loops_of hr hgd rfl (da_cons (dv 1) da_nil)) da_nil)) (de_callB (c_repr hgd hu70) rfl T.m_repr (by decide +kernel) (da_cons (de_callTy c_tuple rfl T.m_tuple (by decide +kernel) (da_cons (dv 2) da_nil)) da_nil)) (nomark _))
  (ds_one (ds_ret de_bl))
  ds_nil)
  (ds_cons (ds_for PassesOwn.never rfl (di_seq (dv 2)) (dg_name (i := 3) SC.nd rfl (by first | exact Or.inl rfl | exact Or.inr rfl))
  (ds_cons (ds_set (i := 4) SC.nd rfl (by first | exact Or.inl rfl | exact Or.inr rfl) (de_ix (de_frz (de_lc (own := [("_law_one", 5), ("_law_late", 6)]) (ct := (.tup [5, 6])) rfl SC.nd (di_seq (dc C_law_all hr hgd rfl (da_cons (dv 1) (da_cons (de_tup da_nil) da_nil)))) (blkOk_by (by show blkC N_law_right (defScope s_law_right) _ _ = true; decide +kernel)) (by decide) (fun _ _ _ _ _ => pg_tup rfl (pgs_cons (pg_name (i := 5) SC.nd rfl (Or.inl rfl)) (pgs_cons (pg_name (i := 6) SC.nd rfl (Or.inl rfl)) pgs_nil))) (fun _ _ _ _ _ => (dts_one (dt_cmp (o_eq hu64) (dv 5) (dv 3) (nomark _)))) (fun _ _ _ _ _ => (dv 6)))) de_int))
  (ds_cons (ds_set (i := 7) SC.nd rfl (by first | exact Or.inl rfl | exact Or.inr rfl) (de_frz (de_lst (da_cons (dc C_bounds_of hr hgd rfl (da_cons (dv 1) (da_cons (dv 3) da_nil))) (da_cons (dc C_told_first hr hgd rfl (da_cons (dv 1) (da_cons (dv 3) da_nil))) (da_cons (dc C_told_last hr hgd rfl (da_cons (dv 1) (da_cons (dv 3) da_nil))) da_nil))))))
  (ds_cons (ds_if (dt_cmp (o_ne hu64) (de_callB (c_repr hgd hu70) rfl T.m_repr (by decide +kernel) (da_cons (dv 7) da_nil)) (de_callB (c_repr hgd hu70) rfl T.m_repr (by decide +kernel) (da_cons (de_frz (de_lst (da_cons (de_slice (dv 4) (do_some de_int) (do_some de_int)) (da_cons (dc C_law_told hr hgd rfl (da_cons (dv 1) (da_cons (dv 3) (da_cons de_bl da_nil)))) (da_cons (dc C_law_told hr hgd rfl (da_cons (dv 1) (da_cons (dv 3) (da_cons de_bl da_nil)))) da_nil))))) da_nil)) (nomark _))
  (ds_one (ds_ret de_bl))
  ds_nil)
  (ds_one (ds_for PassesOwn.never rfl (di_seq (de_tup (da_cons (de_tup (da_cons de_int (da_cons de_int da_nil))) (da_cons (de_tup (da_cons de_int (da_cons de_int da_nil))) (da_cons (de_tup (da_cons de_int (da_cons de_int da_nil))) (da_cons (de_tup (da_cons (de_ix (dv 4) de_int) (da_cons (de_op o_add (de_ix (dv 4) de_int) de_int) da_nil))) (da_cons (de_tup (da_cons (de_op o_pow de_int de_int) (da_cons (de_op o_pow de_int de_int) da_nil))) da_nil))))))) (dg_tup rfl (dgs_cons (dg_name (i := 8) SC.nd rfl (by first | exact Or.inl rfl | exact Or.inr rfl)) (dgs_cons (dg_name (i := 9) SC.nd rfl (by first | exact Or.inl rfl | exact Or.inr rfl)) dgs_nil)))
  (ds_cons (ds_set (i := 6) SC.nd rfl (by first | exact Or.inl rfl | exact Or.inr rfl) (dc C_law_put hr hgd rfl (da_cons (dv 1) (da_cons (dv 3) (da_cons (de_op o_add (de_tup (da_cons (de_ix (dv 4) de_int) (da_cons (dv 8) (da_cons (dv 9) da_nil)))) (de_slice (dv 4) (do_some de_int) do_none)) da_nil)))))
  (ds_one (ds_if (dt_cmp (o_ne hu64) (de_callB (c_repr hgd hu70) rfl T.m_repr (by decide +kernel) (da_cons (dc C_with_bounds hr hgd rfl (da_cons (dv 1) (da_cons (dv 3) (da_cons (dv 8) (da_cons (dv 9) da_nil))))) da_nil)) (de_callB (c_repr hgd hu70) rfl T.m_repr (by decide +kernel) (da_cons (dv 6) da_nil)) (nomark _))
  (ds_one (ds_ret de_bl))
  ds_nil)))))))))
  (ds_cons (ds_for PassesOwn.never rfl (di_range1 rfl T.m_range (da_cons de_int da_nil)) (dg_name (i := 10) SC.nd rfl (by first | exact Or.inl rfl | exact Or.inr rfl))
  (ds_cons (ds_par (i := 11) (j := 6) rfl SC.nd rfl rfl (by decide) rfl rfl (da_cons (de_lst da_nil) (da_cons (dv 1) da_nil)) rfl)
  (ds_cons (ds_for PassesOwn.never rfl (di_range1 rfl T.m_range (da_cons (dc C_law_draw hr hgd rfl (da_cons (dv 0) (da_cons de_int da_nil))) da_nil)) (dg_name (i := 12) SC.nd rfl (by first | exact Or.inl rfl | exact Or.inr rfl))
  (ds_one (ds_if (dt_cmp (o_ne hu64) (dv 2) (de_frz (de_lst da_nil)) (nomark _))
  (ds_one (ds_expr (de_append (dv 11) (de_ix (dv 2) (dc C_law_draw hr hgd rfl (da_cons (dv 0) (da_cons (de_callB c_len rfl T.m_len PySem.boot_len (da_cons (dv 2) da_nil)) da_nil)))))))
  ds_nil)))
  (ds_cons (ds_for PassesOwn.never rfl (di_seq (dv 11)) (dg_name (i := 3) SC.nd rfl (by first | exact Or.inl rfl | exact Or.inr rfl))
  (ds_one (ds_set (i := 6) SC.nd rfl (by first | exact Or.inl rfl | exact Or.inr rfl) (dc C_law_told hr hgd rfl (da_cons (dv 6) (da_cons (dv 3) (da_cons de_bl da_nil)))))))
  (ds_one (ds_if (dt_cmp (o_ne hu64) (de_callB (c_repr hgd hu70) rfl T.m_repr (by decide +kernel) (da_cons (dc C_told_at hr hgd rfl (da_cons (dv 1) (da_cons (de_callTy c_tuple rfl T.m_tuple (by decide +kernel) (da_cons (dv 11) da_nil)) da_nil))) da_nil)) (de_callB (c_repr hgd hu70) rfl T.m_repr (by decide +kernel) (da_cons (dv 6) da_nil)) (nomark _))
  (ds_one (ds_ret de_bl))
  ds_nil))))))
  (ds_one (ds_ret de_bl))))))

theorem d_law_right {P : Program} {w : World} {K : PySem.W.Frag} {mg : Str → Option Value} {base : Heap} {k : Nat} {f : Addr} {fd : FuncData} {sp : DSp} (T : Tx P w K mg) {sp_told_at : DSp} {sp_law_told : DSp} {sp_law_draw : DSp} {sp_with_bounds : DSp} {sp_law_put : DSp} {sp_told_last : DSp} {sp_told_first : DSp} {sp_bounds_of : DSp} {sp_law_all : DSp} {sp_loops_of : DSp} {sp_law_loops : DSp} (C_told_at : Callee P w K mg base k "told_at" P_told_at sp_told_at) (C_law_told : Callee P w K mg base k "_law_told" P_law_told sp_law_told) (C_law_draw : Callee P w K mg base k "_law_draw" P_law_draw sp_law_draw) (C_with_bounds : Callee P w K mg base k "with_bounds" P_with_bounds sp_with_bounds) (C_law_put : Callee P w K mg base k "_law_put" P_law_put sp_law_put) (C_told_last : Callee P w K mg base k "told_last" P_told_last sp_told_last) (C_told_first : Callee P w K mg base k "told_first" P_told_first sp_told_first) (C_bounds_of : Callee P w K mg base k "bounds_of" P_bounds_of sp_bounds_of) (C_law_all : Callee P w K mg base k "_law_all" P_law_all sp_law_all) (C_loops_of : Callee P w K mg base k "loops_of" P_loops_of sp_loops_of) (C_law_loops : Callee P w K mg base k "_law_loops" P_law_loops sp_law_loops) 
    (F : FunD K "_law_right" "_law_right" (defArgs s_law_right) (defBody s_law_right) (defScope s_law_right) [] [] f fd) (len : ∀ ds G Q E, sp ds G Q E → ds.length = 2)
    (ok : ∀ ds G Q E, sp ds G Q E → (r_law_right sp_told_at sp_law_told sp_law_draw sp_with_bounds sp_law_put sp_told_last sp_told_first sp_bounds_of sp_law_all sp_loops_of sp_law_loops) { nx := fun _ G' => Q .non G', rt := Q } (startD 13 ds) G) : DFn P w K mg base (k + 1) f fd P_law_right sp :=
  dfn_of F sc_law_right len (b_law_right T C_told_at C_law_told C_law_draw C_with_bounds C_law_put C_told_last C_told_first C_bounds_of C_law_all C_loops_of C_law_loops) ok

theorem k_law_right {P : Program} {w : World} {K : PySem.W.Frag} {mg : Str → Option Value} {base : Heap} {k : Nat} {f : Addr} {fd : FuncData} {sp : DSp} (T : Tx P w K mg) {sp_told_at : DSp} {sp_law_told : DSp} {sp_law_draw : DSp} {sp_with_bounds : DSp} {sp_law_put : DSp} {sp_told_last : DSp} {sp_told_first : DSp} {sp_bounds_of : DSp} {sp_law_all : DSp} {sp_loops_of : DSp} {sp_law_loops : DSp} (C_told_at : Callee P w K mg base k "told_at" P_told_at sp_told_at) (C_law_told : Callee P w K mg base k "_law_told" P_law_told sp_law_told) (C_law_draw : Callee P w K mg base k "_law_draw" P_law_draw sp_law_draw) (C_with_bounds : Callee P w K mg base k "with_bounds" P_with_bounds sp_with_bounds) (C_law_put : Callee P w K mg base k "_law_put" P_law_put sp_law_put) (C_told_last : Callee P w K mg base k "told_last" P_told_last sp_told_last) (C_told_first : Callee P w K mg base k "told_first" P_told_first sp_told_first) (C_bounds_of : Callee P w K mg base k "bounds_of" P_bounds_of sp_bounds_of) (C_law_all : Callee P w K mg base k "_law_all" P_law_all sp_law_all) (C_loops_of : Callee P w K mg base k "loops_of" P_loops_of sp_loops_of) (C_law_loops : Callee P w K mg base k "_law_loops" P_law_loops sp_law_loops) 
    (F : FunD K "_law_right" "_law_right" (defArgs s_law_right) (defBody s_law_right) (defScope s_law_right) [] [] f fd) (hm : mg "_law_right" = some (.ref f)) (len : ∀ ds G Q E, sp ds G Q E → ds.length = 2)
    (ok : ∀ ds G Q E, sp ds G Q E → (r_law_right sp_told_at sp_law_told sp_law_draw sp_with_bounds sp_law_put sp_told_last sp_told_first sp_bounds_of sp_law_all sp_loops_of sp_law_loops) { nx := fun _ G' => Q .non G', rt := Q } (startD 13 ds) G) : Callee P w K mg base (k + 1) "_law_right" P_law_right sp :=
  callee_of F hm (d_law_right T C_told_at C_law_told C_law_draw C_with_bounds C_law_put C_told_last C_told_first C_bounds_of C_law_all C_loops_of C_law_loops F len ok) (fun _ _ _ _ _ _ us hl => match us, hl with | [_, _], _ => rfl) (fun _ _ _ _ _ _ us hl => match us, hl with | [_, _], _ => rfl)

abbrev N_law_strays_right : List Str := ["_law_item", "_law_spot", "_law_lot", "_law_spots", "_law_asks_of", "_law_own", "_law_spot_in", "_law_late", "_law_stray", "_law_term", "_law_asks", "_law_ask"]
abbrev P_law_strays_right : List Str := ["_law_item", "_law_spot"]

theorem sc_law_strays_right : FnScope N_law_strays_right P_law_strays_right (defScope s_law_strays_right) := ⟨rfl, rfl, rfl, by decide +kernel, rfl, by decide +kernel, by decide +kernel⟩

theorem b_law_strays_right {P : Program} {w : World} {K : PySem.W.Frag} {mg : Str → Option Value} {base : Heap} {k : Nat} {f c Tb : Addr} (T : Tx P w K mg) (TB : TabB base mg c Tb) {sp_law_strays_in : DSp} {sp_law_loops : DSp} {sp_law_all : DSp} {sx_with_bounds : DSp} {sx_told_at : DSp} {sx_bounds_of : DSp} {sx_told_first : DSp} {sx_told_last : DSp} (C_law_strays_in : Callee P w K mg base (k + 2) "_law_strays_in" P_law_strays_in sp_law_strays_in) (C_law_loops : Callee P w K mg base (k + 2) "_law_loops" P_law_loops sp_law_loops) (C_law_all : Callee P w K mg base (k + 2) "_law_all" P_law_all sp_law_all)  (X_with_bounds : XCallee P w K mg base k "with_bounds" P_with_bounds sx_with_bounds) (X_told_at : XCallee P w K mg base k "told_at" P_told_at sx_told_at) (X_bounds_of : XCallee P w K mg base k "bounds_of" P_bounds_of sx_bounds_of) (X_told_first : XCallee P w K mg base k "told_first" P_told_first sx_told_first) (X_told_last : XCallee P w K mg base k "told_last" P_told_last sx_told_last)   (H_law_heard : Hearer P w K mg base k "_law_heard" r_law_heard 4) (A : Around) (out : List Env) (st : Shared) (H : Hp) (E : XK)
    (hr : Room (k + 2) (A.deeper (PyProof.Rows.envOfC "_law_strays_right" (defScope s_law_strays_right) st.heap.objs.size f (.ref c)))) (hgd : (A.deeper (PyProof.Rows.envOfC "_law_strays_right" (defScope s_law_strays_right) st.heap.objs.size f (.ref c))).guards = some []) :
    ∃ φ0 φ1 φ2 φ3 : Phi, DSs (cxOf CX0 P w K mg base N_law_strays_right "_law_strays_right" (defScope s_law_strays_right) f (.ref c) A out st H E).nox (defBody s_law_strays_right) (r_law_strays_right Tb φ0 φ1 φ2 φ3 sp_law_strays_in sp_law_loops sp_law_all sx_with_bounds sx_told_at sx_bounds_of sx_told_first sx_told_last) := by
  have hr2 := hr
  have SC := sc_law_strays_right
  have hu := hu_of hr
  have hu64 := hr.units
  have hu70 := hu70_of hr
  exact ⟨_, _, _, _, (ds_cons (ds_asg (de_tup (da_cons (dc C_law_all hr hgd rfl (da_cons (dv 0) (da_cons (de_tup da_nil) da_nil))) (da_cons (dc C_law_loops hr hgd rfl (da_cons (dv 0) da_nil)) da_nil))) (dg_tup rfl (dgs_cons (dg_name (i := 2) SC.nd rfl (by first | exact Or.inl rfl | exact Or.inr rfl)) (dgs_cons (dg_name (i := 3) SC.nd rfl (by first | exact Or.inl rfl | exact Or.inr rfl)) dgs_nil))))
  (ds_cons (ds_setLc (i := 4) (own := [("_law_own", 5)]) (ct := (.one 5)) rfl SC.nd rfl rfl (sw_true rfl rfl rfl (by decide +kernel)) (di_seq (de_frz (de_step (dc C_law_strays_in hr hgd rfl (da_cons (de_frz (de_lc (own := [("_law_spot_in", 6), ("_law_late", 7)]) (ct := (.tup [6, 7])) rfl SC.nd (di_seq (dv 2)) (blkOk_by (by show blkC N_law_strays_right (defScope s_law_strays_right) _ _ = true; decide +kernel)) (by decide) (fun _ _ _ _ _ => pg_tup rfl (pgs_cons (pg_name (i := 6) SC.nd rfl (Or.inl rfl)) (pgs_cons (pg_name (i := 7) SC.nd rfl (Or.inl rfl)) pgs_nil))) (fun _ _ _ _ _ => dts_nil) (fun _ _ _ _ _ => (dv 6)))) da_nil)) (dv 1) de_int))) (blkOk_by (by show blkC N_law_strays_right (defScope s_law_strays_right) _ _ = true; decide +kernel)) (by decide) (fun _ _ _ _ _ => pg_name (i := 5) SC.nd rfl (Or.inl rfl)) (fun _ _ _ _ _ => dts_nil) (fun _ _ _ _ _ => (de_tup (da_cons (dv 5) (da_cons de_str da_nil)))))
  (ds_cons (ds_expr (de_extend (dv 4) (de_frz (de_lc (own := [("_law_spot_in", 6), ("_law_own", 5)]) (ct := (.tup [6, 5])) rfl SC.nd (di_seq (dv 2)) (blkOk_by (by show blkC N_law_strays_right (defScope s_law_strays_right) _ _ = true; decide +kernel)) (by decide) (fun _ _ _ _ _ => pg_tup rfl (pgs_cons (pg_name (i := 6) SC.nd rfl (Or.inl rfl)) (pgs_cons (pg_name (i := 5) SC.nd rfl (Or.inl rfl)) pgs_nil))) (fun _ _ _ _ _ => (dts_one (dt_cmp o_notin (de_ix (dv 5) de_int) (de_tup (da_cons de_str (da_cons de_str da_nil))) rfl))) (fun _ _ _ _ _ => (de_tup (da_cons (dv 6) (da_cons de_str da_nil))))))))
  (ds_cons (ds_for PassesOwn.never rfl (di_seq (dv 4)) (dg_tup rfl (dgs_cons (dg_name (i := 8) SC.nd rfl (by first | exact Or.inl rfl | exact Or.inr rfl)) (dgs_cons (dg_name (i := 9) SC.nd rfl (by first | exact Or.inl rfl | exact Or.inr rfl)) dgs_nil)))
  (ds_cons (ds_set (i := 10) SC.nd rfl (by first | exact Or.inl rfl | exact Or.inr rfl) (de_lst (da_cons (de_lamQ TB rfl (by first | rfl | kernel_rfl) rfl (lamS_by (by show lamSB (defScope s_law_strays_right) _ = true; decide +kernel))) da_nil)))
  (ds_cons (ds_expr (de_append (dv 10) (de_lamQ TB rfl (by first | rfl | kernel_rfl) rfl (lamS_by (by show lamSB (defScope s_law_strays_right) _ = true; decide +kernel)))))
  (ds_cons (ds_expr (de_append (dv 10) (de_lamQ TB rfl (by first | rfl | kernel_rfl) rfl (lamS_by (by show lamSB (defScope s_law_strays_right) _ = true; decide +kernel)))))
  (ds_cons (ds_expr (de_append (dv 10) (de_lamQ TB rfl (by first | rfl | kernel_rfl) rfl (lamS_by (by show lamSB (defScope s_law_strays_right) _ = true; decide +kernel)))))
  (ds_cons (ds_if (dt_cmp (o_ne hu64) (de_frz (de_asks (own := [("_law_ask", 11)]) (iy := 11) H_law_heard (all_cons (lamOf_by (by first | rfl | kernel_rfl) (lamS_by (by show lamSB (defScope s_law_strays_right) _ = true; decide +kernel)) (fun _ _ _ _ => rfl) (fun A outer s H E f c' hr hgd tk => have hu := hu_of hr; have hu64 := hr.units; have hu70 := hu70_of hr; (xc X_bounds_of tk hr hgd rfl (xa_p (da_cons (dv 0) (da_cons (dv 8) da_nil)))))) (all_cons (lamOf_by (by first | rfl | kernel_rfl) (lamS_by (by show lamSB (defScope s_law_strays_right) _ = true; decide +kernel)) (fun _ _ _ _ => rfl) (fun A outer s H E f c' hr hgd tk => have hu := hu_of hr; have hu64 := hr.units; have hu70 := hu70_of hr; (xc X_told_first tk hr hgd rfl (xa_p (da_cons (dv 0) (da_cons (dv 8) da_nil)))))) (all_cons (lamOf_by (by first | rfl | kernel_rfl) (lamS_by (by show lamSB (defScope s_law_strays_right) _ = true; decide +kernel)) (fun _ _ _ _ => rfl) (fun A outer s H E f c' hr hgd tk => have hu := hu_of hr; have hu64 := hr.units; have hu70 := hu70_of hr; (xc X_told_last tk hr hgd rfl (xa_p (da_cons (dv 0) (da_cons (dv 8) da_nil)))))) (all_cons (lamOf_by (by first | rfl | kernel_rfl) (lamS_by (by show lamSB (defScope s_law_strays_right) _ = true; decide +kernel)) (fun _ _ _ _ => rfl) (fun A outer s H E f c' hr hgd tk => have hu := hu_of hr; have hu64 := hr.units; have hu70 := hu70_of hr; (xc X_with_bounds tk hr hgd rfl (xa_p (da_cons (dv 0) (da_cons (dv 8) (da_cons de_non (da_cons de_non da_nil)))))))) all_nil)))) hr2 hgd rfl SC.nd (di_seq (dv 10)) (blkOk_by (by show blkC N_law_strays_right (defScope s_law_strays_right) _ _ = true; decide +kernel)) (by decide) rfl (fun _ _ _ _ _ => pg_name (i := 11) SC.nd rfl (Or.inl rfl)) (fun _ _ _ _ _ => rfl) (fun _ _ _ _ _ => (dv 11)) (fun _ _ _ _ _ => (de_tup (da_cons de_str (da_cons (dv 9) (da_cons (de_neg de_int) da_nil))))) (fun _ _ _ _ _ => (o_ne hu64)) (nomark _))) (de_frz (de_lst da_nil)) (nomark _))
  (ds_one (ds_ret de_bl))
  ds_nil)
  (ds_one (ds_if (dt_cmp (o_ne hu64) (de_hearL H_law_heard TB rfl (by first | rfl | kernel_rfl) hr2 hgd rfl rfl (lamS_by (by show lamSB (defScope s_law_strays_right) _ = true; decide +kernel)) (fun _ _ _ _ => rfl) (fun A outer s H E f c' hr hgd tk => have hu := hu_of hr; have hu64 := hr.units; have hu70 := hu70_of hr; (xc X_told_at tk hr hgd rfl (xa_p (da_cons (dv 0) (da_cons (de_op o_add (de_callTy c_tuple rfl T.m_tuple (by decide +kernel) (da_cons (dv 3) da_nil)) (de_tup (da_cons (dv 8) (da_cons de_non da_nil)))) da_nil)))))) (de_tup (da_cons de_str (da_cons de_str (da_cons (de_callB c_len rfl T.m_len PySem.boot_len (da_cons (dv 3) da_nil)) da_nil)))) (nomark _))
  (ds_one (ds_ret de_bl))
  ds_nil))))))))
  (ds_cons (ds_for PassesOwn.never rfl (di_seq (de_frz (de_step (de_frz (de_lst (da_cons de_non (da_cons de_int (da_cons de_str (da_cons (de_frz (de_lst da_nil)) (da_cons (de_frz (de_callTy c_list rfl T.m_list (by decide +kernel) (da_cons (dv 3) da_nil))) (da_cons de_str (da_cons de_bl da_nil))))))))) (dv 1) de_int))) (dg_name (i := 8) SC.nd rfl (by first | exact Or.inl rfl | exact Or.inr rfl))
  (ds_one (ds_if (dt_cmp (o_ne hu64) (de_hearL H_law_heard TB rfl (by first | rfl | kernel_rfl) hr2 hgd rfl rfl (lamS_by (by show lamSB (defScope s_law_strays_right) _ = true; decide +kernel)) (fun _ _ _ _ => rfl) (fun A outer s H E f c' hr hgd tk => have hu := hu_of hr; have hu64 := hr.units; have hu70 := hu70_of hr; (xc X_told_at tk hr hgd rfl (xa_p (da_cons (dv 0) (da_cons (dv 8) da_nil)))))) (de_tup (da_cons de_str (da_cons de_str (da_cons (de_neg de_int) da_nil)))) (nomark _))
  (ds_one (ds_ret de_bl))
  ds_nil)))
  (ds_cons (ds_if (dt_cmp (o_eq hu64) (dv 3) (de_frz (de_lst da_nil)) (nomark _))
  (ds_one (ds_ret de_bl))
  ds_nil)
  (ds_cons (ds_for PassesOwn.never rfl (di_seq (de_frz (de_step (de_frz (de_lst (da_cons (de_neg de_int) (da_cons de_non (da_cons de_bl (da_cons de_str (da_cons (de_tup (da_cons de_int da_nil)) (da_cons (de_frz (de_lst (da_cons de_int da_nil))) (da_cons (de_neg (de_op o_pow de_int de_int)) da_nil))))))))) (dv 1) de_int))) (dg_name (i := 8) SC.nd rfl (by first | exact Or.inl rfl | exact Or.inr rfl))
  (ds_cons (ds_if (dt_cmp (o_ne hu64) (de_hearL H_law_heard TB rfl (by first | rfl | kernel_rfl) hr2 hgd rfl rfl (lamS_by (by show lamSB (defScope s_law_strays_right) _ = true; decide +kernel)) (fun _ _ _ _ => rfl) (fun A outer s H E f c' hr hgd tk => have hu := hu_of hr; have hu64 := hr.units; have hu70 := hu70_of hr; (xc X_with_bounds tk hr hgd rfl (xa_p (da_cons (dv 0) (da_cons (de_ix (dv 3) (de_neg de_int)) (da_cons (dv 8) (da_cons de_non da_nil)))))))) (de_tup (da_cons de_str (da_cons de_str (da_cons (de_neg de_int) da_nil)))) (nomark _))
  (ds_one (ds_ret de_bl))
  ds_nil)
  (ds_one (ds_if (dt_cmp (o_ne hu64) (de_hearL H_law_heard TB rfl (by first | rfl | kernel_rfl) hr2 hgd rfl rfl (lamS_by (by show lamSB (defScope s_law_strays_right) _ = true; decide +kernel)) (fun _ _ _ _ => rfl) (fun A outer s H E f c' hr hgd tk => have hu := hu_of hr; have hu64 := hr.units; have hu70 := hu70_of hr; (xc X_with_bounds tk hr hgd rfl (xa_p (da_cons (dv 0) (da_cons (de_ix (dv 3) (de_neg de_int)) (da_cons de_int (da_cons (dv 8) da_nil)))))))) (de_tup (da_cons de_str (da_cons de_str (da_cons (de_neg de_int) da_nil)))) (nomark _))
  (ds_one (ds_ret de_bl))
  ds_nil))))
  (ds_one (ds_ret (de_cmp (o_eq hu64) (de_hearL H_law_heard TB rfl (by first | rfl | kernel_rfl) hr2 hgd rfl rfl (lamS_by (by show lamSB (defScope s_law_strays_right) _ = true; decide +kernel)) (fun _ _ _ _ => rfl) (fun A outer s H E f c' hr hgd tk => have hu := hu_of hr; have hu64 := hr.units; have hu70 := hu70_of hr; (xc X_with_bounds tk hr hgd rfl (xa_p (da_cons (dv 0) (da_cons (de_ix (dv 3) de_int) (da_cons de_int (da_cons de_int da_nil)))))))) (de_tup (da_cons de_str (da_cons de_str (da_cons (de_neg de_int) da_nil)))) (nomark _)))))))))))⟩

theorem d_law_strays_right {P : Program} {w : World} {K : PySem.W.Frag} {mg : Str → Option Value} {base : Heap} {k : Nat} {f c Tb : Addr} {fd : FuncData} {sp : DSp} (T : Tx P w K mg) (TB : TabB base mg c Tb) (hc : fd.code = .ref c) {sp_law_strays_in : DSp} {sp_law_loops : DSp} {sp_law_all : DSp} {sx_with_bounds : DSp} {sx_told_at : DSp} {sx_bounds_of : DSp} {sx_told_first : DSp} {sx_told_last : DSp} (C_law_strays_in : Callee P w K mg base (k + 2) "_law_strays_in" P_law_strays_in sp_law_strays_in) (C_law_loops : Callee P w K mg base (k + 2) "_law_loops" P_law_loops sp_law_loops) (C_law_all : Callee P w K mg base (k + 2) "_law_all" P_law_all sp_law_all)  (X_with_bounds : XCallee P w K mg base k "with_bounds" P_with_bounds sx_with_bounds) (X_told_at : XCallee P w K mg base k "told_at" P_told_at sx_told_at) (X_bounds_of : XCallee P w K mg base k "bounds_of" P_bounds_of sx_bounds_of) (X_told_first : XCallee P w K mg base k "told_first" P_told_first sx_told_first) (X_told_last : XCallee P w K mg base k "told_last" P_told_last sx_told_last)   (H_law_heard : Hearer P w K mg base k "_law_heard" r_law_heard 4)
    (F : FunD K "_law_strays_right" "_law_strays_right" (defArgs s_law_strays_right) (defBody s_law_strays_right) (defScope s_law_strays_right) [] [] f fd) (len : ∀ ds G Q E, sp ds G Q E → ds.length = 2)
    (ok : ∀ φ0 φ1 φ2 φ3, ∀ ds G Q E, sp ds G Q E → (r_law_strays_right Tb φ0 φ1 φ2 φ3 sp_law_strays_in sp_law_loops sp_law_all sx_with_bounds sx_told_at sx_bounds_of sx_told_first sx_told_last) { nx := fun _ G' => Q .non G', rt := Q } (startD 12 ds) G) : DFn P w K mg base (k + 3) f fd P_law_strays_right sp :=
  dfn_ofL (β := Phi × Phi × Phi × Phi) (t := fun b => r_law_strays_right Tb b.1 b.2.1 b.2.2.1 b.2.2.2 sp_law_strays_in sp_law_loops sp_law_all sx_with_bounds sx_told_at sx_bounds_of sx_told_first sx_told_last) F hc sc_law_strays_right len (fun A out st H E hr hgd => by obtain ⟨p0, p1, p2, p3, h⟩ := b_law_strays_right T TB C_law_strays_in C_law_loops C_law_all X_with_bounds X_told_at X_bounds_of X_told_first X_told_last H_law_heard A out st H E hr hgd; exact ⟨(p0, p1, p2, p3), h⟩) (fun b => ok b.1 b.2.1 b.2.2.1 b.2.2.2)

theorem k_law_strays_right {P : Program} {w : World} {K : PySem.W.Frag} {mg : Str → Option Value} {base : Heap} {k : Nat} {f c Tb : Addr} {fd : FuncData} {sp : DSp} (T : Tx P w K mg) (TB : TabB base mg c Tb) (hc : fd.code = .ref c) {sp_law_strays_in : DSp} {sp_law_loops : DSp} {sp_law_all : DSp} {sx_with_bounds : DSp} {sx_told_at : DSp} {sx_bounds_of : DSp} {sx_told_first : DSp} {sx_told_last : DSp} (C_law_strays_in : Callee P w K mg base (k + 2) "_law_strays_in" P_law_strays_in sp_law_strays_in) (C_law_loops : Callee P w K mg base (k + 2) "_law_loops" P_law_loops sp_law_loops) (C_law_all : Callee P w K mg base (k + 2) "_law_all" P_law_all sp_law_all)  (X_with_bounds : XCallee P w K mg base k "with_bounds" P_with_bounds sx_with_bounds) (X_told_at : XCallee P w K mg base k "told_at" P_told_at sx_told_at) (X_bounds_of : XCallee P w K mg base k "bounds_of" P_bounds_of sx_bounds_of) (X_told_first : XCallee P w K mg base k "told_first" P_told_first sx_told_first) (X_told_last : XCallee P w K mg base k "told_last" P_told_last sx_told_last)   (H_law_heard : Hearer P w K mg base k "_law_heard" r_law_heard 4)
    (F : FunD K "_law_strays_right" "_law_strays_right" (defArgs s_law_strays_right) (defBody s_law_strays_right) (defScope s_law_strays_right) [] [] f fd) (hm : mg "_law_strays_right" = some (.ref f)) (len : ∀ ds G Q E, sp ds G Q E → ds.length = 2)
    (ok : ∀ φ0 φ1 φ2 φ3, ∀ ds G Q E, sp ds G Q E → (r_law_strays_right Tb φ0 φ1 φ2 φ3 sp_law_strays_in sp_law_loops sp_law_all sx_with_bounds sx_told_at sx_bounds_of sx_told_first sx_told_last) { nx := fun _ G' => Q .non G', rt := Q } (startD 12 ds) G) : Callee P w K mg base (k + 3) "_law_strays_right" P_law_strays_right sp :=
  callee_of F hm (d_law_strays_right T TB hc C_law_strays_in C_law_loops C_law_all X_with_bounds X_told_at X_bounds_of X_told_first X_told_last H_law_heard F len ok) (fun _ _ _ _ _ _ us hl => match us, hl with | [_, _], _ => rfl) (fun _ _ _ _ _ _ us hl => match us, hl with | [_, _], _ => rfl)

abbrev N_law : List Str := ["_law_script", "_law_feed_here", "_law_item", "_law_kept", "_law_first_here", "_law_told_here"]
abbrev P_law : List Str := ["_law_script"]

theorem sc_law : FnScope N_law P_law (defScope s_law) := ⟨rfl, rfl, rfl, by decide +kernel, rfl, by decide +kernel, by decide +kernel⟩

theorem b_law {P : Program} {w : World} {K : PySem.W.Frag} {mg : Str → Option Value} {base : Heap} {k : Nat} {f : Addr} (T : Tx P w K mg) {sp_loops_of : DSp} {sp_law_second : DSp} {sp_with_bounds : DSp} {sp_told_at : DSp} {sp_told_last : DSp} {sp_told_first : DSp} {sp_bounds_of : DSp} {sp_law_first : DSp} {sp_law_right : DSp} {sp_law_work : DSp} {sp_law_free_work : DSp} {sp_law_strays_right : DSp} {sp_law_draw : DSp} {sp_law_feed : DSp} (C_loops_of : Callee P w K mg base k "loops_of" P_loops_of sp_loops_of) (C_law_second : Callee P w K mg base k "_law_second" P_law_second sp_law_second) (C_law_first : Callee P w K mg base k "_law_first" P_law_first sp_law_first) (C_law_right : Callee P w K mg base k "_law_right" P_law_right sp_law_right) (C_law_work : Callee P w K mg base k "_law_work" P_law_work sp_law_work) (C_law_free_work : Callee P w K mg base k "_law_free_work" P_law_free_work sp_law_free_work) (C_law_strays_right : Callee P w K mg base k "_law_strays_right" P_law_strays_right sp_law_strays_right) (C_law_draw : Callee P w K mg base k "_law_draw" P_law_draw sp_law_draw) (C_law_feed : Callee P w K mg base k "_law_feed" P_law_feed sp_law_feed) (G_with_bounds_0_most_least_path_work : CalleeG P w K mg base k "with_bounds" 0 ["most", "least", "path", "work"] [(2, 3), (2, 2), (2, 1), (2, 0)] [] sp_with_bounds) (G_told_at_0_paths_work : CalleeG P w K mg base k "told_at" 0 ["paths", "work"] [(2, 1), (2, 0)] [] sp_told_at) (G_told_last_0_path_work : CalleeG P w K mg base k "told_last" 0 ["path", "work"] [(2, 1), (2, 0)] [] sp_told_last) (G_told_first_0_path_work : CalleeG P w K mg base k "told_first" 0 ["path", "work"] [(2, 1), (2, 0)] [] sp_told_first) (G_bounds_of_0_path_work : CalleeG P w K mg base k "bounds_of" 0 ["path", "work"] [(2, 1), (2, 0)] [] sp_bounds_of) (cdv : Value) (A : Around) (out : List Env) (st : Shared) (H : Hp) (E : XK)
    (hr : Room k (A.deeper (PyProof.Rows.envOfC "law" (defScope s_law) st.heap.objs.size f cdv))) (hgd : (A.deeper (PyProof.Rows.envOfC "law" (defScope s_law) st.heap.objs.size f cdv)).guards = some []) :
    DSs (cxOf CX0 P w K mg base N_law "law" (defScope s_law) f cdv A out st H E).nox (defBody s_law) (r_law sp_loops_of sp_law_second sp_with_bounds sp_told_at sp_told_last sp_told_first sp_bounds_of sp_law_first sp_law_right sp_law_work sp_law_free_work sp_law_strays_right sp_law_draw sp_law_feed) := by
  have SC := sc_law
  have hu := hu_of hr
  have hu64 := hr.units
  have hu70 := hu70_of hr
  exact (ds_cons (ds_set (i := 1) SC.nd rfl (by first | exact Or.inl rfl | exact Or.inr rfl) (dc C_law_feed hr hgd rfl (da_cons (dv 0) da_nil)))
  (ds_cons (ds_for PassesOwn.never rfl (di_seq (de_tup (da_cons (dc C_law_free_work hr hgd rfl (da_cons (dv 1) (da_cons de_int da_nil))) (da_cons (dc C_law_work hr hgd rfl (da_cons (dv 1) (da_cons de_int da_nil))) (da_cons (dc0 C_law_second hr hgd rfl) da_nil))))) (dg_name (i := 2) SC.nd rfl (by first | exact Or.inl rfl | exact Or.inr rfl))
  (ds_cons (ds_set (i := 3) SC.nd rfl (by first | exact Or.inl rfl | exact Or.inr rfl) (de_callB (c_repr hgd hu70) rfl T.m_repr (by decide +kernel) (da_cons (dv 2) da_nil)))
  (ds_one (ds_if (dt_w (dw_or (dt_not (dt_tru (dc C_law_right hr hgd rfl (da_cons (dv 1) (da_cons (dv 2) da_nil))))) (dw_or (dt_not (dt_tru (dc C_law_strays_right hr hgd rfl (da_cons (dv 2) (da_cons (dc C_law_draw hr hgd rfl (da_cons (dv 1) (da_cons de_int da_nil))) da_nil))))) (dw_or1 (dt_cmp (o_ne hu64) (de_callB (c_repr hgd hu70) rfl T.m_repr (by decide +kernel) (da_cons (dv 2) da_nil)) (dv 3) (nomark _))))))
  (ds_one (ds_ret de_bl))
  ds_nil))))
  (ds_cons (ds_if (dt_not (dt_tru (dc C_law_right hr hgd rfl (da_cons (dv 1) (da_cons (de_tup (da_cons de_str (da_cons (de_op o_mul (de_tup (da_cons (de_tup (da_cons de_str (da_cons de_int (da_cons de_int (da_cons de_bl da_nil))))) (da_cons (de_tup (da_cons de_str (da_cons de_int (da_cons de_int (da_cons de_bl (da_cons (de_tup (da_cons de_str (da_cons de_int (da_cons de_int (da_cons de_bl da_nil))))) da_nil)))))) da_nil))) de_int) da_nil))) da_nil)))))
  (ds_one (ds_ret de_bl))
  ds_nil)
  (ds_cons (ds_set (i := 4) SC.nd rfl (by first | exact Or.inl rfl | exact Or.inr rfl) (dc0 C_law_first hr hgd rfl))
  (ds_cons (ds_set (i := 5) SC.nd rfl (by first | exact Or.inl rfl | exact Or.inr rfl) (de_lst (da_cons (dck C_loops_of hr hgd rfl (dk_cons (dv 4) dk_nil)) (da_cons (dcg0 G_bounds_of_0_path_work hr hgd rfl (dk_cons (de_tup (da_cons de_int da_nil)) (dk_cons (dv 4) dk_nil))) (da_cons (de_ix (de_ix (de_ix (dcg0 G_told_first_0_path_work hr hgd rfl (dk_cons (de_tup (da_cons de_int da_nil)) (dk_cons (dv 4) dk_nil))) de_int) de_int) de_int) da_nil)))))
  (ds_cons (ds_expr (de_extend (dv 5) (de_frz (de_lst (da_cons (de_cmp (o_eq hu64) (dcg0 G_told_last_0_path_work hr hgd rfl (dk_cons (de_tup (da_cons de_int da_nil)) (dk_cons (dv 4) dk_nil))) (dv 4) (nomark _)) (da_cons (de_ix (de_ix (de_ix (dcg0 G_told_at_0_paths_work hr hgd rfl (dk_cons (de_tup (da_cons (de_tup (da_cons de_int da_nil)) (da_cons (de_tup (da_cons de_int da_nil)) da_nil))) (dk_cons (dv 4) dk_nil))) de_int) de_int) de_int) da_nil))))))
  (ds_cons (ds_expr (de_append (dv 5) (de_slice (de_ix (de_ix (dcg0 G_with_bounds_0_most_least_path_work hr hgd rfl (dk_cons de_int (dk_cons de_int (dk_cons (de_tup (da_cons de_int da_nil)) (dk_cons (dv 4) dk_nil))))) de_int) de_int) do_none (do_some de_int))))
  (ds_cons (ds_if (dt_cmp (o_ne hu64) (dv 5) (de_frz (de_lst (da_cons (de_tup (da_cons (de_tup (da_cons de_int da_nil)) da_nil)) (da_cons (de_tup (da_cons de_int (da_cons de_int da_nil))) (da_cons de_bl (da_cons de_bl (da_cons de_bl (da_cons (de_tup (da_cons de_str (da_cons de_int (da_cons de_int (da_cons de_bl da_nil))))) da_nil)))))))) (nomark _))
  (ds_one (ds_ret de_bl))
  ds_nil)
  (ds_one (ds_ret (de_cmp (o_eq hu64) (dc C_loops_of hr hgd rfl (da_cons (dc0 C_law_second hr hgd rfl) da_nil)) (de_tup (da_cons (de_tup (da_cons de_int (da_cons de_int da_nil))) (da_cons (de_tup (da_cons de_int (da_cons de_int da_nil))) (da_cons (de_tup (da_cons de_int (da_cons de_int (da_cons de_int da_nil)))) (da_cons (de_tup (da_cons de_int (da_cons de_int (da_cons de_int da_nil)))) (da_cons (de_tup (da_cons de_int (da_cons de_int (da_cons de_int da_nil)))) da_nil)))))) (nomark _))))))))))))

theorem mG_with_bounds_0_most_least_path_work {P : Program} {w : World} {K : PySem.W.Frag} {mg : Str → Option Value} {base : Heap} {k : Nat} {f : Addr} {fd : FuncData} {sp : DSp} (F : FunD K "with_bounds" "with_bounds" (defArgs s_with_bounds) (defBody s_with_bounds) (defScope s_with_bounds) [] [] f fd) (hm : mg "with_bounds" = some (.ref f)) (D : DFn P w K mg base k f fd P_with_bounds sp) : CalleeG P w K mg base k "with_bounds" 0 ["most", "least", "path", "work"] [(2, 3), (2, 2), (2, 1), (2, 0)] [] sp :=
  calleeG_of F hm D (fun _ _ _ _ _ _ us ws h1 h2 => match us, ws, h1, h2 with | [], [_, _, _, _], _, _ => rfl)

theorem mG_told_at_0_paths_work {P : Program} {w : World} {K : PySem.W.Frag} {mg : Str → Option Value} {base : Heap} {k : Nat} {f : Addr} {fd : FuncData} {sp : DSp} (F : FunD K "told_at" "told_at" (defArgs s_told_at) (defBody s_told_at) (defScope s_told_at) [] [] f fd) (hm : mg "told_at" = some (.ref f)) (D : DFn P w K mg base k f fd P_told_at sp) : CalleeG P w K mg base k "told_at" 0 ["paths", "work"] [(2, 1), (2, 0)] [] sp :=
  calleeG_of F hm D (fun _ _ _ _ _ _ us ws h1 h2 => match us, ws, h1, h2 with | [], [_, _], _, _ => rfl)

theorem mG_told_last_0_path_work {P : Program} {w : World} {K : PySem.W.Frag} {mg : Str → Option Value} {base : Heap} {k : Nat} {f : Addr} {fd : FuncData} {sp : DSp} (F : FunD K "told_last" "told_last" (defArgs s_told_last) (defBody s_told_last) (defScope s_told_last) [] [] f fd) (hm : mg "told_last" = some (.ref f)) (D : DFn P w K mg base k f fd P_told_last sp) : CalleeG P w K mg base k "told_last" 0 ["path", "work"] [(2, 1), (2, 0)] [] sp :=
  calleeG_of F hm D (fun _ _ _ _ _ _ us ws h1 h2 => match us, ws, h1, h2 with | [], [_, _], _, _ => rfl)

theorem mG_told_first_0_path_work {P : Program} {w : World} {K : PySem.W.Frag} {mg : Str → Option Value} {base : Heap} {k : Nat} {f : Addr} {fd : FuncData} {sp : DSp} (F : FunD K "told_first" "told_first" (defArgs s_told_first) (defBody s_told_first) (defScope s_told_first) [] [] f fd) (hm : mg "told_first" = some (.ref f)) (D : DFn P w K mg base k f fd P_told_first sp) : CalleeG P w K mg base k "told_first" 0 ["path", "work"] [(2, 1), (2, 0)] [] sp :=
  calleeG_of F hm D (fun _ _ _ _ _ _ us ws h1 h2 => match us, ws, h1, h2 with | [], [_, _], _, _ => rfl)

theorem mG_bounds_of_0_path_work {P : Program} {w : World} {K : PySem.W.Frag} {mg : Str → Option Value} {base : Heap} {k : Nat} {f : Addr} {fd : FuncData} {sp : DSp} (F : FunD K "bounds_of" "bounds_of" (defArgs s_bounds_of) (defBody s_bounds_of) (defScope s_bounds_of) [] [] f fd) (hm : mg "bounds_of" = some (.ref f)) (D : DFn P w K mg base k f fd P_bounds_of sp) : CalleeG P w K mg base k "bounds_of" 0 ["path", "work"] [(2, 1), (2, 0)] [] sp :=
  calleeG_of F hm D (fun _ _ _ _ _ _ us ws h1 h2 => match us, ws, h1, h2 with | [], [_, _], _, _ => rfl)
end K04

namespace K04
open PySem L2 Dl K03
open PyProof.Rows LamX NdefX
section
variable {w : World} {K : PySem.W.Frag} {h : Heap} {mg : Str → Option Value}
theorem tx_of (X : K.In h) (G : h.Ns mainGlobals mg) (c : SaysE fx fn (tq.map (·.1)) ex xs pd h K) : Tx (PySem.Challenge.rw_honestbars_k04_bounds_told).prog w K mg := by
  have X1 : exTB K CT = true := (Bool.and_eq_true_iff.mp c.more).1
  have X2 := (Bool.and_eq_true_iff.mp c.more).2
  have Y_NotUsable := X2
  have x_NotUsable : XClass (PySem.Challenge.rw_honestbars_k04_bounds_told).prog w K mg "NotUsable" ["word", "at"] := xclass2 (d := xd_NotUsable) Y_NotUsable (c.ini xd_NotUsable (by unfold xs; simp)) (He.glo_ok X G (c.x.fact 57 (f := .glo "NotUsable") rfl)) rfl rfl (nscope_by (by decide +kernel)) rfl rfl rfl (by decide +kernel) (by decide) (by decide) (by decide) (by decide)
    (fun _ _ _ _ _ _ us hl => match us, hl with | [_, _, _], _ => rfl) (fun _ => rfl) (fun _ => rfl)
  exact ⟨He.free_ok X G (c.x.fact 36 (f := .free "all") rfl), He.free_ok X G (c.x.fact 37 (f := .free "bool") rfl), He.free_ok X G (c.x.fact 38 (f := .free "dict") rfl), He.free_ok X G (c.x.fact 39 (f := .free "enumerate") rfl), He.free_ok X G (c.x.fact 40 (f := .free "int") rfl), He.free_ok X G (c.x.fact 41 (f := .free "isinstance") rfl), He.free_ok X G (c.x.fact 42 (f := .free "len") rfl), He.free_ok X G (c.x.fact 43 (f := .free "list") rfl), He.free_ok X G (c.x.fact 44 (f := .free "min") rfl), He.free_ok X G (c.x.fact 45 (f := .free "range") rfl), He.free_ok X G (c.x.fact 46 (f := .free "repr") rfl), He.free_ok X G (c.x.fact 47 (f := .free "sum") rfl), He.free_ok X G (c.x.fact 48 (f := .free "tuple") rfl), He.free_ok X G (c.x.fact 49 (f := .free "zip") rfl), dat_ok X G (c.x.fact 50 (f := .dat "COUNTED" (.tup [(.str "some"), (.str "loop")])) rfl), x_NotUsable, He.glo_ok X G (c.x.fact 51 (f := .glo "BarError") rfl), He.glo_ok X G (c.x.fact 52 (f := .glo "InvalidPaper") rfl), He.glo_ok X G (c.x.fact 53 (f := .glo "InvalidRow") rfl), He.glo_ok X G (c.x.fact 54 (f := .glo "InvalidText") rfl), He.glo_ok X G (c.x.fact 55 (f := .glo "LiveError") rfl), He.glo_ok X G (c.x.fact 56 (f := .glo "NotNext") rfl), He.glo_ok X G (c.x.fact 57 (f := .glo "NotUsable") rfl), He.glo_ok X G (c.x.fact 58 (f := .glo "PaperError") rfl), He.glo_ok X G (c.x.fact 59 (f := .glo "TextError") rfl), He.glo_ok X G (c.x.fact 60 (f := .glo "WorkError") rfl), exTB_ok X1⟩
end
theorem noRall0 (ds : List D) (G : GH) (Q : DK) (E : DXK) : ¬ pSp (RallL 0) ds G Q E := fun ⟨_, ⟨w, _, _, _, h, _⟩, _⟩ => by have := dW_pos w; omega
theorem noRd0 (ds : List D) (G : GH) (Q : DK) (E : DXK) : ¬ pSp (RdL 0) ds G Q E := fun ⟨_, ⟨w, _, _, h, _⟩, _⟩ => by have := dW_pos w; omega
theorem noRlp0 (ds : List D) (G : GH) (Q : DK) (E : DXK) : ¬ pSp (RlpL 0) ds G Q E := fun ⟨_, ⟨w, _, _, _, _, _, _, h, _⟩, _⟩ => by omega
theorem noFew0 (ds : List D) (G : GH) (Q : DK) (E : DXK) : ¬ spFewL 0 ds G Q E := fun ⟨w, _, _, _, h, _⟩ => by have := dW_pos w; omega
theorem noFW0 (ds : List D) (G : GH) (Q : DK) (E : DXK) : ¬ spFW 0 ds G Q E := fun ⟨_, _, _, h, _⟩ => by omega

theorem facts {w : World} {K : PySem.W.Frag} {h : Heap} {mg : Str → Option Value} {f : Addr} (X : K.In h) (G : h.Ns mainGlobals mg) (hfa : mg ("law" : Str) = some (.ref f)) (c : SaysE fx fn (tq.map (·.1)) ex xs pd h K) :
    ∃ fd : FuncData, (∀ (s : Shared) (v : Value), BindsTo s fd ⟨[v], []⟩ [("_law_script", v)]) ∧ ∀ base : Heap, K.In base → base.Ns mainGlobals mg → (∀ p ∈ csT K tq, TabB base mg p.1 p.2) → DFn (PySem.Challenge.rw_honestbars_k04_bounds_told).prog w K mg base 44 f fd ["_law_script"] (spLaw04 (He.cT K ("_law_strays_right", none)).2) := by
  have T : Tx (PySem.Challenge.rw_honestbars_k04_bounds_told).prog w K mg := tx_of X G c
  obtain ⟨fd_is_integer, F_is_integer⟩ := c.x.def_ 0 (d := d_is_integer_) rfl
  have m_is_integer := He.glo_ok X G (c.x.fact 0 (f := .glo "is_integer") rfl)
  obtain ⟨fd_is_number, F_is_number⟩ := c.x.def_ 1 (d := d_is_number_) rfl
  have m_is_number := He.glo_ok X G (c.x.fact 1 (f := .glo "is_number") rfl)
  obtain ⟨fd_inner_works, F_inner_works⟩ := c.x.def_ 2 (d := d_inner_works_) rfl
  have m_inner_works := He.glo_ok X G (c.x.fact 2 (f := .glo "inner_works") rfl)
  obtain ⟨fd_inner_pairs, F_inner_pairs⟩ := c.x.def_ 3 (d := d_inner_pairs_) rfl
  have m_inner_pairs := He.glo_ok X G (c.x.fact 3 (f := .glo "inner_pairs") rfl)
  obtain ⟨fd_require_usable, F_require_usable⟩ := c.x.def_ 4 (d := d_require_usable_) rfl
  have m_require_usable := He.glo_ok X G (c.x.fact 4 (f := .glo "require_usable") rfl)
  obtain ⟨fd_all_pairs, F_all_pairs⟩ := c.x.def_ 5 (d := d_all_pairs_) rfl
  have m_all_pairs := He.glo_ok X G (c.x.fact 5 (f := .glo "all_pairs") rfl)
  obtain ⟨fd_works_along, F_works_along⟩ := c.x.def_ 6 (d := d_works_along_) rfl
  have m_works_along := He.glo_ok X G (c.x.fact 6 (f := .glo "works_along") rfl)
  obtain ⟨fd_put_inner, F_put_inner⟩ := c.x.def_ 7 (d := d_put_inner_) rfl
  have m_put_inner := He.glo_ok X G (c.x.fact 7 (f := .glo "put_inner") rfl)
  obtain ⟨fd_put_along, F_put_along⟩ := c.x.def_ 8 (d := d_put_along_) rfl
  have m_put_along := He.glo_ok X G (c.x.fact 8 (f := .glo "put_along") rfl)
  obtain ⟨fd_loops_of, F_loops_of⟩ := c.x.def_ 9 (d := d_loops_of_) rfl
  have m_loops_of := He.glo_ok X G (c.x.fact 9 (f := .glo "loops_of") rfl)
  obtain ⟨fd_counted_along, F_counted_along⟩ := c.x.def_ 10 (d := d_counted_along_) rfl
  have m_counted_along := He.glo_ok X G (c.x.fact 10 (f := .glo "counted_along") rfl)
  obtain ⟨fd_bounds_of, F_bounds_of⟩ := c.x.def_ 11 (d := d_bounds_of_) rfl
  have m_bounds_of := He.glo_ok X G (c.x.fact 11 (f := .glo "bounds_of") rfl)
  obtain ⟨fd_with_told, F_with_told⟩ := c.x.def_ 12 (d := d_with_told_) rfl
  have m_with_told := He.glo_ok X G (c.x.fact 12 (f := .glo "with_told") rfl)
  obtain ⟨fd_told_first, F_told_first⟩ := c.x.def_ 13 (d := d_told_first_) rfl
  have m_told_first := He.glo_ok X G (c.x.fact 13 (f := .glo "told_first") rfl)
  obtain ⟨fd_told_last, F_told_last⟩ := c.x.def_ 14 (d := d_told_last_) rfl
  have m_told_last := He.glo_ok X G (c.x.fact 14 (f := .glo "told_last") rfl)
  obtain ⟨fd_with_bounds, F_with_bounds⟩ := c.x.def_ 15 (d := d_with_bounds_) rfl
  have m_with_bounds := He.glo_ok X G (c.x.fact 15 (f := .glo "with_bounds") rfl)
  obtain ⟨fd_is_path_of, F_is_path_of⟩ := c.x.def_ 16 (d := d_is_path_of_) rfl
  have m_is_path_of := He.glo_ok X G (c.x.fact 16 (f := .glo "is_path_of") rfl)
  obtain ⟨fd_told_at, F_told_at⟩ := c.x.def_ 17 (d := d_told_at_) rfl
  have m_told_at := He.glo_ok X G (c.x.fact 17 (f := .glo "told_at") rfl)
  obtain ⟨fd_law_feed, F_law_feed⟩ := c.x.def_ 18 (d := d_law_feed_) rfl
  have m_law_feed := He.glo_ok X G (c.x.fact 18 (f := .glo "_law_feed") rfl)
  obtain ⟨fd_law_draw, F_law_draw⟩ := c.x.def_ 19 (d := d_law_draw_) rfl
  have m_law_draw := He.glo_ok X G (c.x.fact 19 (f := .glo "_law_draw") rfl)
  obtain ⟨fd_law_subs, F_law_subs⟩ := c.x.def_ 20 (d := d_law_subs_) rfl
  have m_law_subs := He.glo_ok X G (c.x.fact 20 (f := .glo "_law_subs") rfl)
  obtain ⟨fd_law_all, F_law_all⟩ := c.x.def_ 21 (d := d_law_all_) rfl
  have m_law_all := He.glo_ok X G (c.x.fact 21 (f := .glo "_law_all") rfl)
  obtain ⟨fd_law_put, F_law_put⟩ := c.x.def_ 22 (d := d_law_put_) rfl
  have m_law_put := He.glo_ok X G (c.x.fact 22 (f := .glo "_law_put") rfl)
  obtain ⟨fd_law_fewest, F_law_fewest⟩ := c.x.def_ 23 (d := d_law_fewest_) rfl
  have m_law_fewest := He.glo_ok X G (c.x.fact 23 (f := .glo "_law_fewest") rfl)
  obtain ⟨fd_law_bounds, F_law_bounds⟩ := c.x.def_ 24 (d := d_law_bounds_) rfl
  have m_law_bounds := He.glo_ok X G (c.x.fact 24 (f := .glo "_law_bounds") rfl)
  obtain ⟨fd_law_free_work, F_law_free_work⟩ := c.x.def_ 25 (d := d_law_free_work_) rfl
  have m_law_free_work := He.glo_ok X G (c.x.fact 25 (f := .glo "_law_free_work") rfl)
  obtain ⟨fd_law_work, F_law_work⟩ := c.x.def_ 26 (d := d_law_work_) rfl
  have m_law_work := He.glo_ok X G (c.x.fact 26 (f := .glo "_law_work") rfl)
  obtain ⟨fd_law_first, F_law_first⟩ := c.x.def_ 27 (d := d_law_first_) rfl
  have m_law_first := He.glo_ok X G (c.x.fact 27 (f := .glo "_law_first") rfl)
  obtain ⟨fd_law_second, F_law_second⟩ := c.x.def_ 28 (d := d_law_second_) rfl
  have m_law_second := He.glo_ok X G (c.x.fact 28 (f := .glo "_law_second") rfl)
  obtain ⟨fd_law_heard, F_law_heard⟩ := c.x.def_ 29 (d := d_law_heard_) rfl
  have m_law_heard := He.glo_ok X G (c.x.fact 29 (f := .glo "_law_heard") rfl)
  obtain ⟨fd_law_strays_in, F_law_strays_in⟩ := c.x.def_ 30 (d := d_law_strays_in_) rfl
  have m_law_strays_in := He.glo_ok X G (c.x.fact 30 (f := .glo "_law_strays_in") rfl)
  obtain ⟨fd_law_loops, F_law_loops⟩ := c.x.def_ 31 (d := d_law_loops_) rfl
  have m_law_loops := He.glo_ok X G (c.x.fact 31 (f := .glo "_law_loops") rfl)
  obtain ⟨fd_law_told, F_law_told⟩ := c.x.def_ 32 (d := d_law_told_) rfl
  have m_law_told := He.glo_ok X G (c.x.fact 32 (f := .glo "_law_told") rfl)
  obtain ⟨fd_law_right, F_law_right⟩ := c.x.def_ 33 (d := d_law_right_) rfl
  have m_law_right := He.glo_ok X G (c.x.fact 33 (f := .glo "_law_right") rfl)
  obtain ⟨fd_law_strays_right, F_law_strays_right⟩ := c.x.def_ 34 (d := d_law_strays_right_) rfl
  have m_law_strays_right := He.glo_ok X G (c.x.fact 34 (f := .glo "_law_strays_right") rfl)
  obtain ⟨fd_law, F_law⟩ := c.x.def_ 35 (d := d_law_) rfl
  have m_law := He.glo_ok X G (c.x.fact 35 (f := .glo "law") rfl)
  have e := hfa.symm.trans m_law
  cases e
  have b := FunD.bindsA (ps := ["_law_script"]) F_law fun _ _ _ _ _ _ us hl => match us, hl with | [_], _ => rfl
  refine ⟨fd_law, fun s v => b s [v] rfl, fun base _ _ TB => ?_⟩
  clear X G c hfa
  have C_inner_works := k_inner_works (w := w) (base := base) (k := 0) T  F_inner_works m_inner_works (fun _ _ _ _ h => by obtain ⟨_, ⟨_, rfl, _⟩, _⟩ := h; rfl) K03.inner_works_rd
  have C_inner_pairs := k_inner_pairs (w := w) (base := base) (k := 1) T (C_inner_works.up (by omega)) F_inner_pairs m_inner_pairs (fun _ _ _ _ h => by obtain ⟨_, ⟨_, _, rfl, _⟩, _⟩ := h; rfl) K03.inner_pairs_rd
  have C_all_pairs := k_all_pairs (w := w) (base := base) (k := 2) T (C_inner_pairs.up (by omega)) F_all_pairs m_all_pairs (fun _ _ _ _ h => by obtain ⟨_, ⟨_, rfl, _⟩, _⟩ := h; rfl) K03.all_pairs_rd
  have C_loops_of := k_loops_of (w := w) (base := base) (k := 3) T (C_all_pairs.up (by omega)) F_loops_of m_loops_of (fun _ _ _ _ h => by obtain ⟨_, ⟨_, rfl, _⟩, _⟩ := h; rfl) loops_of_rd
  have C_law_second := k_law_second (w := w) (base := base) (k := 0) T  F_law_second m_law_second (fun _ _ _ _ h => by obtain ⟨_, ⟨rfl, _⟩, _⟩ := h; rfl) K03.law_second_rd
  have C_law_first := k_law_first (w := w) (base := base) (k := 0) T  F_law_first m_law_first (fun _ _ _ _ h => by obtain ⟨_, ⟨rfl, _⟩, _⟩ := h; rfl) K03.law_first_rd
  have C_is_integer := k_is_integer (w := w) (base := base) (k := 0) T  F_is_integer m_is_integer (fun _ _ _ _ h => by obtain ⟨_, ⟨_, rfl, _⟩, _⟩ := h; rfl) K03.is_integer_rd
  have C_is_number := k_is_number (w := w) (base := base) (k := 1) T (C_is_integer.up (by omega)) F_is_number m_is_number (fun _ _ _ _ h => by obtain ⟨_, ⟨_, rfl, _⟩, _⟩ := h; rfl) K03.is_number_rd
  have C_is_path_of := k_is_path_of (w := w) (base := base) (k := 2) T (C_is_number.up (by omega)) F_is_path_of m_is_path_of (fun _ _ _ _ h => by obtain ⟨_, ⟨_, _, _, rfl, _⟩, _⟩ := h; rfl) is_path_of_rd
  have C_put_inner := k_put_inner (w := w) (base := base) (k := 0) T  F_put_inner m_put_inner (fun _ _ _ _ h => by obtain ⟨_, ⟨_, _, _, rfl, _⟩, _⟩ := h; rfl) K03.put_inner_rd
  have C_put_along := k_put_along (w := w) (base := base) (k := 1) T (C_put_inner.up (by omega)) F_put_along m_put_along (fun _ _ _ _ h => by obtain ⟨_, ⟨_, _, _, _, rfl, _⟩, _⟩ := h; rfl) K03.put_along_rd
  have D_require_usable := d_require_usable (w := w) (base := base) (k := 2) T (by omega) F_require_usable (fun _ _ _ _ h => by obtain ⟨_, ⟨_, _, _, rfl, _⟩, _⟩ := h; rfl) K03.require_usable_rd
  have X_require_usable := k_require_usable (w := w) (base := base) (k := 2) T (by omega) F_require_usable m_require_usable (fun _ _ _ _ h => by obtain ⟨_, ⟨_, _, _, rfl, _⟩, _⟩ := h; rfl) K03.require_usable_rd
  have D_works_along := d_works_along (w := w) (base := base) (k := 3) T (C_is_number.up (by omega)) (C_inner_works.up (by omega)) (X_require_usable.up (by omega)) F_works_along (fun _ _ _ _ h => by obtain ⟨_, ⟨_, _, rfl, _⟩, _⟩ := h; rfl) K03.works_along_rd
  have X_works_along := k_works_along (w := w) (base := base) (k := 3) T (C_is_number.up (by omega)) (C_inner_works.up (by omega)) (X_require_usable.up (by omega)) F_works_along m_works_along (fun _ _ _ _ h => by obtain ⟨_, ⟨_, _, rfl, _⟩, _⟩ := h; rfl) K03.works_along_rd
  have D_counted_along := d_counted_along (w := w) (base := base) (k := 4) T (X_require_usable.up (by omega)) (X_works_along.up (by omega)) F_counted_along (fun _ _ _ _ h => by obtain ⟨_, ⟨_, _, rfl, _⟩, _⟩ := h; rfl) counted_along_rd
  have X_counted_along := k_counted_along (w := w) (base := base) (k := 4) T (X_require_usable.up (by omega)) (X_works_along.up (by omega)) F_counted_along m_counted_along (fun _ _ _ _ h => by obtain ⟨_, ⟨_, _, rfl, _⟩, _⟩ := h; rfl) counted_along_rd
  have D_with_told := d_with_told (w := w) (base := base) (k := 5) T (C_put_along.up (by omega)) (X_counted_along.up (by omega)) F_with_told (fun _ _ _ _ h => by obtain ⟨_, ⟨_, _, _, rfl, _⟩, _⟩ := h; rfl) with_told_rd
  have X_with_told := k_with_told (w := w) (base := base) (k := 5) T (C_put_along.up (by omega)) (X_counted_along.up (by omega)) F_with_told m_with_told (fun _ _ _ _ h => by obtain ⟨_, ⟨_, _, _, rfl, _⟩, _⟩ := h; rfl) with_told_rd
  have D_told_at := d_told_at (w := w) (base := base) (k := 6) T (C_is_path_of.up (by omega)) (C_loops_of.up (by omega)) (X_with_told.up (by omega)) (X_require_usable.up (by omega)) F_told_at (fun _ _ _ _ h => by obtain ⟨_, ⟨_, _, rfl, _⟩, _⟩ := h; rfl) told_at_rd
  have G_told_at_0_paths_work := mG_told_at_0_paths_work F_told_at m_told_at (D_told_at.calm told_at_calm)
  have X_told_at := k_told_at (w := w) (base := base) (k := 6) T (C_is_path_of.up (by omega)) (C_loops_of.up (by omega)) (X_with_told.up (by omega)) (X_require_usable.up (by omega)) F_told_at m_told_at (fun _ _ _ _ h => by obtain ⟨_, ⟨_, _, rfl, _⟩, _⟩ := h; rfl) told_at_rd
  have C_law_subs := k_law_subs (w := w) (base := base) (k := 0) T  F_law_subs m_law_subs (fun _ _ _ _ h => by obtain ⟨_, rfl, _⟩ := h; rfl) K03.law_subs_rd
  have C_law_put : ∀ n, n ≤ 40 → Callee (PySem.Challenge.rw_honestbars_k04_bounds_told).prog w K mg base (n + 1) "_law_put" P_law_put (pSp (RlpL n)) := by
    intro n
    induction n with
    | zero => exact fun _ => (z_law_put F_law_put m_law_put noRlp0).up (by omega)
    | succ n ih => exact fun hn => k_law_put T (ih (by omega)) (C_law_subs.up (by omega)) F_law_put m_law_put (fun _ _ _ _ h => by obtain ⟨_, ⟨_, _, _, _, rfl, _⟩, _⟩ := h; rfl) (law_put_rd)
  have C_law_all : ∀ n, n ≤ 40 → Callee (PySem.Challenge.rw_honestbars_k04_bounds_told).prog w K mg base (n + 1) "_law_all" P_law_all (pSp (RallL n)) := by
    intro n
    induction n with
    | zero => exact fun _ => (z_law_all F_law_all m_law_all noRall0).up (by omega)
    | succ n ih => exact fun hn => k_law_all T (ih (by omega)) (C_law_subs.up (by omega)) F_law_all m_law_all (fun _ _ _ _ h => by obtain ⟨_, ⟨_, _, rfl, _⟩, _⟩ := h; rfl) (law_all_rd)
  have C_law_told := k_law_told (w := w) (base := base) (k := 41) T ((C_law_put 40 (by decide)).up (by omega)) ((C_law_all 40 (by decide)).up (by omega)) F_law_told m_law_told (fun _ _ _ _ h => by obtain ⟨_, ⟨_, _, _, rfl, _⟩, _⟩ := h; rfl) (law_told_rd (by omega))
  have C_law_draw := k_law_draw (w := w) (base := base) (k := 0) T  F_law_draw m_law_draw (fun _ _ _ _ h => by obtain ⟨_, _, rfl, _⟩ := h; rfl) K03.law_draw_rd
  have D_with_bounds := d_with_bounds (w := w) (base := base) (k := 5) T (C_put_along.up (by omega)) (C_is_number.up (by omega)) (X_require_usable.up (by omega)) (X_counted_along.up (by omega)) F_with_bounds (fun _ _ _ _ h => by obtain ⟨_, ⟨_, _, _, _, rfl, _⟩, _⟩ := h; rfl) with_bounds_rd
  have G_with_bounds_0_most_least_path_work := mG_with_bounds_0_most_least_path_work F_with_bounds m_with_bounds (D_with_bounds.calm with_bounds_calm)
  have X_with_bounds := k_with_bounds (w := w) (base := base) (k := 5) T (C_put_along.up (by omega)) (C_is_number.up (by omega)) (X_require_usable.up (by omega)) (X_counted_along.up (by omega)) F_with_bounds m_with_bounds (fun _ _ _ _ h => by obtain ⟨_, ⟨_, _, _, _, rfl, _⟩, _⟩ := h; rfl) with_bounds_rd
  have D_told_last := d_told_last (w := w) (base := base) (k := 6) T (X_with_told.up (by omega)) F_told_last (fun _ _ _ _ h => by obtain ⟨_, ⟨_, _, rfl, _⟩, _⟩ := h; rfl) told_last_rd
  have G_told_last_0_path_work := mG_told_last_0_path_work F_told_last m_told_last (D_told_last.calm told_last_calm)
  have X_told_last := k_told_last (w := w) (base := base) (k := 6) T (X_with_told.up (by omega)) F_told_last m_told_last (fun _ _ _ _ h => by obtain ⟨_, ⟨_, _, rfl, _⟩, _⟩ := h; rfl) told_last_rd
  have D_told_first := d_told_first (w := w) (base := base) (k := 6) T (X_with_told.up (by omega)) F_told_first (fun _ _ _ _ h => by obtain ⟨_, ⟨_, _, rfl, _⟩, _⟩ := h; rfl) told_first_rd
  have G_told_first_0_path_work := mG_told_first_0_path_work F_told_first m_told_first (D_told_first.calm told_first_calm)
  have X_told_first := k_told_first (w := w) (base := base) (k := 6) T (X_with_told.up (by omega)) F_told_first m_told_first (fun _ _ _ _ h => by obtain ⟨_, ⟨_, _, rfl, _⟩, _⟩ := h; rfl) told_first_rd
  have D_bounds_of := d_bounds_of (w := w) (base := base) (k := 5) T (X_counted_along.up (by omega)) F_bounds_of (fun _ _ _ _ h => by obtain ⟨_, ⟨_, _, rfl, _⟩, _⟩ := h; rfl) bounds_of_rd
  have G_bounds_of_0_path_work := mG_bounds_of_0_path_work F_bounds_of m_bounds_of (D_bounds_of.calm bounds_of_calm)
  have X_bounds_of := k_bounds_of (w := w) (base := base) (k := 5) T (X_counted_along.up (by omega)) F_bounds_of m_bounds_of (fun _ _ _ _ h => by obtain ⟨_, ⟨_, _, rfl, _⟩, _⟩ := h; rfl) bounds_of_rd
  have C_law_loops := k_law_loops (w := w) (base := base) (k := 41) T ((C_law_all 40 (by decide)).up (by omega)) F_law_loops m_law_loops (fun _ _ _ _ h => by obtain ⟨_, ⟨_, rfl, _⟩, _⟩ := h; rfl) (law_loops_rd (by omega))
  have C_law_right := k_law_right (w := w) (base := base) (k := 42) T ((X_told_at.calm told_at_calm).up (by omega)) (C_law_told.up (by omega)) (C_law_draw.up (by omega)) ((X_with_bounds.calm with_bounds_calm).up (by omega)) ((C_law_put 40 (by decide)).up (by omega)) ((X_told_last.calm told_last_calm).up (by omega)) ((X_told_first.calm told_first_calm).up (by omega)) ((X_bounds_of.calm bounds_of_calm).up (by omega)) ((C_law_all 40 (by decide)).up (by omega)) (C_loops_of.up (by omega)) (C_law_loops.up (by omega)) F_law_right m_law_right (fun _ _ _ _ h => by obtain ⟨_, _, rfl, _⟩ := h; rfl) K04.law_right_rd
  have C_law_fewest : ∀ n, n ≤ 40 → Callee (PySem.Challenge.rw_honestbars_k04_bounds_told).prog w K mg base (n + 1) "_law_fewest" P_law_fewest (spFewL n) := by
    intro n
    induction n with
    | zero => exact fun _ => (z_law_fewest F_law_fewest m_law_fewest noFew0).up (by omega)
    | succ n ih => exact fun hn => k_law_fewest T (C_law_subs.up (by omega)) (ih (by omega)) F_law_fewest m_law_fewest (fun _ _ _ _ h => by obtain ⟨_, rfl, _⟩ := h; rfl) (law_fewest_rd)
  have C_law_bounds := k_law_bounds (w := w) (base := base) (k := 1) T (C_law_draw.up (by omega)) F_law_bounds m_law_bounds (fun _ _ _ _ h => by obtain ⟨_, rfl, _⟩ := h; rfl) K03.law_bounds_rd
  have C_law_free_work : ∀ n, n ≤ 4 → Callee (PySem.Challenge.rw_honestbars_k04_bounds_told).prog w K mg base (n + 2) "_law_free_work" P_law_free_work (spFW n) := by
    intro n
    induction n with
    | zero => exact fun _ => (z_law_free_work F_law_free_work m_law_free_work noFW0).up (by omega)
    | succ n ih => exact fun hn => k_law_free_work T (ih (by omega)) (C_law_draw.up (by omega)) (C_law_bounds.up (by omega)) F_law_free_work m_law_free_work (fun _ _ _ _ h => by obtain ⟨_, _, rfl, _⟩ := h; rfl) (law_free_work_rd)
  have C_law_work := k_law_work (w := w) (base := base) (k := 41) T ((C_law_fewest 40 (by decide)).up (by omega)) ((C_law_free_work 4 (by decide)).up (by omega)) F_law_work m_law_work (fun _ _ _ _ h => by obtain ⟨_, rfl, _⟩ := h; rfl) (law_work_rd (by omega) (by omega))
  have C_law_strays_in := k_law_strays_in (w := w) (base := base) (k := 0) T  F_law_strays_in m_law_strays_in (fun _ _ _ _ h => by obtain ⟨_, rfl, _⟩ := h; rfl) K03.law_strays_in_rd
  have C_law_strays_right := k_law_strays_right (w := w) (base := base) (k := 40) T (TB _ (csT_at (tq := tq) 0 rfl)) (funD_code F_law_strays_right) (C_law_strays_in.up (by omega)) (C_law_loops.up (by omega)) ((C_law_all 40 (by decide)).up (by omega)) (X_with_bounds.up (by omega)) (X_told_at.up (by omega)) (X_bounds_of.up (by omega)) (X_told_first.up (by omega)) (X_told_last.up (by omega)) (k_law_heard T F_law_heard m_law_heard) F_law_strays_right m_law_strays_right (fun _ _ _ _ h => by obtain ⟨_, _, rfl, _⟩ := h; rfl) K04.law_strays_right_rd
  have C_law_feed := k_law_feed (w := w) (base := base) (k := 0) T  F_law_feed m_law_feed (fun _ _ _ _ h => by obtain ⟨_, rfl, _⟩ := h; rfl) K03.law_feed_rd
  exact dfn_of (k := 43) F_law sc_law (fun _ _ _ _ h => by obtain ⟨_, rfl, _⟩ := h; rfl) (b_law T (C_loops_of.up (by omega)) (C_law_second.up (by omega)) (C_law_first.up (by omega)) (C_law_right.up (by omega)) (C_law_work.up (by omega)) ((C_law_free_work 4 (by decide)).up (by omega)) (C_law_strays_right.up (by omega)) (C_law_draw.up (by omega)) (C_law_feed.up (by omega)) (G_with_bounds_0_most_least_path_work.up (by omega)) (G_told_at_0_paths_work.up (by omega)) (G_told_last_0_path_work.up (by omega)) (G_told_first_0_path_work.up (by omega)) (G_bounds_of_0_path_work.up (by omega))) (K04.law_rd (by omega))
end K04
open PySem Dl in
theorem PySem.Challenge.cw_honestbars_k04_bounds_told_holds : PySem.Challenge.rw_honestbars_k04_bounds_told.Holds :=
  K04.head_of fun w mg fa h K KX c G hmg => by
    obtain ⟨fd, hb, hF⟩ := K04.facts KX G hmg c
    exact ⟨K, fd, _, tabsT K K04.tq, csT K K04.tq, KX, hb, c.empty', c.out', csT_in, tabsT_cs, c.hd' KX, fun ns _ => ⟨ns, rfl, c.at_ (tq := K04.tq) 0 rfl, fun _ => rfl⟩, hF⟩


