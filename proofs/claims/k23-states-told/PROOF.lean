import PyProof.Rows.All
import Wide.All
import OpenK.AllK
import Wide.FinOn
import HandS.ForMost
import HandS.ForExc
import HandS.Defaults
import HandS.TupAny
import HandS.TupMul
import HandS.Wide
import HandS.Style
import HandS.Star
import HandS.IsInst
import HandS.Flow
import HandS.Conv
import KE.GoesEnum
import HandS.Head0
import HandS.Head1
import HandS.Head2
import HandS.HeadEnd
import HandS.HeadHook1
import HandS.HeadHook2
import KE.DataAny
import KE.KRevSl
import HandS.Strs
import HandS.SetBool
import HandS.SetFor
import PyProof.ListNew
import HandS.SortInts
import HandS.GenList
import KE.DataEq
import HandS.TupLe
import KE.LtData
import KE.KSortTup
import HandS.SortRule
import KE.KDictList
import PySem.Challenge.RW_honestbars_k23_states_told
set_option Elab.async false
set_option linter.all false
set_option maxRecDepth 100000
set_option maxHeartbeats 0
namespace Dl
open PySem L2

inductive D where
  | non
  | bl (b : Bool)
  | int (i : Int)
  | str (x : Str)
  | byt (b : Array UInt8)
  | tup (xs : List D)
  | lst (xs : List D)
  | ref (a : Addr)
  /-- the script: a list of ints that is read alone -/
  | scr (ns : List Int)

inductive DO where
  | lst (xs : List D)
  | dct (kvs : List (Key × D))
  | raw (o : HO)

abbrev GH := Addr → Option DO
def updG (G : GH) (a : Addr) (o : DO) : GH := fun b => if b = a then some o else G b
def dropG (G : GH) (a : Addr) : GH := fun b => if b = a then none else G b
theorem updG_same {G : GH} {a : Addr} {o : DO} : updG G a o a = some o := by unfold updG; rw [if_pos rfl]
theorem updG_ne {G : GH} {a b : Addr} {o : DO} (h : b ≠ a) : updG G a o b = G b := by unfold updG; rw [if_neg h]
theorem dropG_same {G : GH} {a : Addr} : dropG G a a = none := by unfold dropG; rw [if_pos rfl]
theorem dropG_ne {G : GH} {a b : Addr} (h : b ≠ a) : dropG G a b = G b := by unfold dropG; rw [if_neg h]
theorem updG_updG {G : GH} {a : Addr} {o u : DO} : updG (updG G a o) a u = updG G a u := by
  funext b; unfold updG; split <;> rfl
theorem dropG_updG {G : GH} {a : Addr} {o : DO} (h : G a = none) : dropG (updG G a o) a = G := by
  funext b
  by_cases e : b = a
  · subst e; rw [dropG_same, h]
  · rw [dropG_ne e, updG_ne e]
def TupAt (K : PySem.W.Frag) (G : GH) (H : Hp) (a : Addr) (xs : List V) : Prop := (G a = none ∧ Rd H a (.tup xs)) ∨
  ∃ (o : Obj) (its : Array Value) (n : Nat), K.lookup a = some o ∧ o.cls = .type "tuple" ∧ o.data = .seq its n ∧ its.size ≤ sizeLine ∧ Vals xs its.toList
def LstAt (G : GH) (H : Hp) (a : Addr) (xs : List V) : Prop := G a = none ∧ H a = some (.lst xs)
theorem TupAt.sq {K : PySem.W.Frag} {G : GH} {H : Hp} {a : Addr} {xs : List V} (h : TupAt K G H a xs) : SqT K H a xs := h.elim (fun h => .inl h.2) .inr
theorem LstAt.sq {K : PySem.W.Frag} {G : GH} {H : Hp} {a : Addr} {xs : List V} (h : LstAt G H a xs) : SqL K H a xs := SqL.of h.2
def ScrAt (K : PySem.W.Frag) (G : GH) (H : Hp) (a : Addr) (xs : List V) : Prop := (G a = none ∧ Rd H a (.lst xs)) ∨
  ∃ (o : Obj) (its : Array Value) (n : Nat), K.lookup a = some o ∧ o.cls = .type "list" ∧ o.dict = none ∧ o.data = .seq its n ∧ its.size ≤ sizeLine ∧ Vals xs its.toList
theorem ScrAt.sq {K : PySem.W.Frag} {G : GH} {H : Hp} {a : Addr} {xs : List V} (h : ScrAt K G H a xs) : SqL K H a xs := h.elim (fun h => .inl h.2) .inr
mutual
def RepV (K : PySem.W.Frag) (G : GH) (H : Hp) : D → V → Prop
  | .non, v => v = .non
  | .bl b, v => v = .bl b
  | .int i, v => v = .int i
  | .str x, v => v = .str x
  | .byt x, v => v = .byt x
  | .tup ds, v => ∃ a xs, v = .ref a ∧ TupAt K G H a xs ∧ RepL K G H ds xs
  | .lst ds, v => ∃ a xs, v = .ref a ∧ LstAt G H a xs ∧ RepL K G H ds xs
  | .ref a, v => v = .ref a
  | .scr ns, v => ∃ a, v = .ref a ∧ ScrAt K G H a (ns.map V.int)
def RepL (K : PySem.W.Frag) (G : GH) (H : Hp) : List D → List V → Prop
  | [], xs => xs = []
  | d :: ds, xs => ∃ x r, xs = x :: r ∧ RepV K G H d x ∧ RepL K G H ds r
end

def Ext (G : GH) (H : Hp) (G' : GH) (H' : Hp) : Prop := ∀ a o, H a = some o → (∃ o', H' a = some o') ∧ (G a = none → G' a = none ∧ H' a = some o)
theorem Ext.refl (G : GH) (H : Hp) : Ext G H G H := fun a o h => ⟨⟨o, h⟩, fun g => ⟨g, h⟩⟩
theorem Ext.trans {G G1 G2 : GH} {H H1 H2 : Hp} (a : Ext G H G1 H1) (b : Ext G1 H1 G2 H2) : Ext G H G2 H2 := fun x o h => by
  obtain ⟨⟨o1, h1⟩, k⟩ := a x o h
  obtain ⟨⟨o2, h2⟩, _⟩ := b x o1 h1
  refine ⟨⟨o2, h2⟩, fun g => ?_⟩
  obtain ⟨g1, e1⟩ := k g
  exact (b x o e1).2 g1
theorem Ext.fresh {G G' : GH} {H H' : Hp} (e : Ext G H G' H') {p : Addr} (h : H' p = none) : H p = none := by
  cases q : H p with
  | none => rfl
  | some o =>
    obtain ⟨⟨o', e'⟩, _⟩ := e p o q
    rw [h] at e'; cases e'
theorem Ext.new {G : GH} {H : Hp} {p : Addr} {o : HO} (h : H p = none) : Ext G H G (upd H p o) := fun a u e => by
  have n : a ≠ p := ne_of_none e h
  rw [upd_ne n]
  exact ⟨⟨u, e⟩, fun g => ⟨g, e⟩⟩
theorem Ext.newG {G : GH} {H : Hp} {p : Addr} {o : HO} {u : DO} (h : H p = none) : Ext G H (updG G p u) (upd H p o) := fun a v e => by
  have n : a ≠ p := ne_of_none e h
  rw [upd_ne n, updG_ne n]
  exact ⟨⟨v, e⟩, fun g => ⟨g, e⟩⟩
theorem Ext.write {G : GH} {H : Hp} {p : Addr} {o : HO} {u w : DO} (h : G p = some w) : Ext G H (updG G p u) (upd H p o) := fun a v e => by
  by_cases n : a = p
  · subst n
    refine ⟨⟨_, upd_same⟩, fun g => ?_⟩
    rw [h] at g; cases g
  · rw [upd_ne n, updG_ne n]
    exact ⟨⟨v, e⟩, fun g => ⟨g, e⟩⟩
theorem Ext.drop {G : GH} {H : Hp} {p : Addr} : Ext G H (dropG G p) H := fun a v e => by
  refine ⟨⟨v, e⟩, fun g => ⟨?_, e⟩⟩
  by_cases n : a = p
  · subst n; exact dropG_same
  · rw [dropG_ne n]; exact g

def DOk (K : PySem.W.Frag) (G : GH) (H : Hp) (a : Addr) : DO → Prop
  | .lst ds => ∃ xs, H a = some (.lst xs) ∧ RepL K G H ds xs
  | .dct kvs => ∃ ws : List (Key × V), H a = some (.dK ws) ∧ ws.map (·.1) = kvs.map (·.1) ∧ RepL K G H (kvs.map (·.2)) (ws.map (·.2))
  | .raw o => H a = some o
def GOk (K : PySem.W.Frag) (G : GH) (H : Hp) : Prop := ∀ a o, G a = some o → DOk K G H a o
theorem DOk.there {K : PySem.W.Frag} {G : GH} {H : Hp} {a : Addr} {o : DO} (h : DOk K G H a o) : ∃ u, H a = some u := by
  cases o with
  | lst ds => obtain ⟨xs, e, _⟩ := h; exact ⟨_, e⟩
  | dct kvs => obtain ⟨xs, e, _⟩ := h; exact ⟨_, e⟩
  | raw u => exact ⟨u, h⟩
theorem GOk.fresh {K : PySem.W.Frag} {G : GH} {H : Hp} (g : GOk K G H) {p : Addr} (h : H p = none) : G p = none := by
  cases q : G p with
  | none => rfl
  | some o =>
    obtain ⟨u, e⟩ := (g p o q).there
    rw [h] at e; cases e

section
variable {K : PySem.W.Frag} {G G' : GH} {H H' : Hp}
theorem TupAt.ext (e : Ext G H G' H') {a : Addr} {xs : List V} (h : TupAt K G H a xs) : TupAt K G' H' a xs := by
  rcases h with ⟨g, h | ⟨o, h⟩⟩ | h
  · exact .inl ⟨((e _ _ h).2 g).1, .inl ((e _ _ h).2 g).2⟩
  · exact .inl ⟨((e _ _ h).2 g).1, .inr ⟨o, ((e _ _ h).2 g).2⟩⟩
  · exact .inr h
theorem ScrAt.ext (e : Ext G H G' H') {a : Addr} {xs : List V} (h : ScrAt K G H a xs) : ScrAt K G' H' a xs := by
  rcases h with ⟨g, h | ⟨o, h⟩⟩ | h
  · exact .inl ⟨((e _ _ h).2 g).1, .inl ((e _ _ h).2 g).2⟩
  · exact .inl ⟨((e _ _ h).2 g).1, .inr ⟨o, ((e _ _ h).2 g).2⟩⟩
  · exact .inr h
theorem LstAt.ext (e : Ext G H G' H') {a : Addr} {xs : List V} (h : LstAt G H a xs) : LstAt G' H' a xs := (e _ _ h.2).2 h.1
mutual
theorem RepV.ext (e : Ext G H G' H') : ∀ {d : D} {v : V}, RepV K G H d v → RepV K G' H' d v
  | .non, _, h => h
  | .bl _, _, h => h
  | .int _, _, h => h
  | .str _, _, h => h
  | .byt _, _, h => h
  | .tup _, _, h => by
    unfold RepV at h ⊢
    obtain ⟨a, xs, ev, t, r⟩ := h
    exact ⟨a, xs, ev, t.ext e, r.ext e⟩
  | .lst _, _, h => by
    unfold RepV at h ⊢
    obtain ⟨a, xs, ev, t, r⟩ := h
    exact ⟨a, xs, ev, t.ext e, r.ext e⟩
  | .ref _, _, h => h
  | .scr _, _, h => by
    unfold RepV at h ⊢
    obtain ⟨a, ev, t⟩ := h
    exact ⟨a, ev, t.ext e⟩
theorem RepL.ext (e : Ext G H G' H') : ∀ {ds : List D} {xs : List V}, RepL K G H ds xs → RepL K G' H' ds xs
  | [], _, h => h
  | _ :: _, _, h => by
    unfold RepL at h ⊢
    obtain ⟨x, r, ev, h1, h2⟩ := h
    exact ⟨x, r, ev, h1.ext e, h2.ext e⟩
end
theorem RepL.length : ∀ {ds : List D} {xs : List V}, RepL K G H ds xs → xs.length = ds.length
  | [], _, h => by unfold RepL at h; rw [h]; rfl
  | _ :: ds, _, h => by
    unfold RepL at h
    obtain ⟨x, r, rfl, _, h2⟩ := h
    simp [RepL.length h2]
theorem repL_nil : RepL K G H [] [] := by unfold RepL; rfl
theorem repL_cons {d : D} {ds : List D} {x : V} {xs : List V} (h : RepV K G H d x) (r : RepL K G H ds xs) : RepL K G H (d :: ds) (x :: xs) := by
  unfold RepL; exact ⟨x, xs, rfl, h, r⟩
theorem repL_one {d : D} {x : V} (h : RepV K G H d x) : RepL K G H [d] [x] := repL_cons h repL_nil
theorem RepL.append : ∀ {ds es : List D} {xs ys : List V}, RepL K G H ds xs → RepL K G H es ys → RepL K G H (ds ++ es) (xs ++ ys)
  | [], _, _, _, h, r => by unfold RepL at h; subst h; exact r
  | _ :: _, _, _, _, h, r => by
    unfold RepL at h
    obtain ⟨x, t, rfl, h1, h2⟩ := h
    exact repL_cons h1 (RepL.append h2 r)
theorem RepL.get : ∀ {ds : List D} {xs : List V} {i : Nat} {d : D}, RepL K G H ds xs → ds[i]? = some d → ∃ x, xs[i]? = some x ∧ RepV K G H d x
  | [], _, _, _, _, e => by simp at e
  | _ :: _, _, 0, _, h, e => by
    unfold RepL at h
    obtain ⟨x, t, rfl, h1, h2⟩ := h
    simp at e; subst e
    exact ⟨x, rfl, h1⟩
  | _ :: ds, _, i + 1, d, h, e => by
    unfold RepL at h
    obtain ⟨x, t, rfl, h1, h2⟩ := h
    obtain ⟨y, e1, e2⟩ := RepL.get (i := i) (d := d) h2 (by simpa using e)
    exact ⟨y, by simpa using e1, e2⟩
theorem RepL.take : ∀ {ds : List D} {xs : List V} (n : Nat), RepL K G H ds xs → RepL K G H (ds.take n) (xs.take n)
  | _, _, 0, _ => by simp [repL_nil]
  | [], _, _ + 1, h => by unfold RepL at h; subst h; simp [repL_nil]
  | _ :: _, _, n + 1, h => by
    unfold RepL at h
    obtain ⟨x, t, rfl, h1, h2⟩ := h
    exact repL_cons h1 (RepL.take n h2)
theorem RepL.drop : ∀ {ds : List D} {xs : List V} (n : Nat), RepL K G H ds xs → RepL K G H (ds.drop n) (xs.drop n)
  | _, _, 0, h => by simpa using h
  | [], _, _ + 1, h => by unfold RepL at h; subst h; simp [repL_nil]
  | _ :: _, _, n + 1, h => by
    unfold RepL at h
    obtain ⟨x, t, rfl, h1, h2⟩ := h
    exact RepL.drop n h2
theorem RepL.set {d : D} {x : V} (hd : RepV K G H d x) : ∀ {ds : List D} {xs : List V} (n : Nat), RepL K G H ds xs → RepL K G H (ds.set n d) (xs.set n x)
  | [], _, _, h => by unfold RepL at h; subst h; simp [repL_nil]
  | _ :: _, _, 0, h => by
    unfold RepL at h
    obtain ⟨x, t, rfl, h1, h2⟩ := h
    exact repL_cons hd h2
  | _ :: _, _, n + 1, h => by
    unfold RepL at h
    obtain ⟨x, t, rfl, h1, h2⟩ := h
    exact repL_cons h1 (RepL.set hd n h2)
theorem RepL.reverse : ∀ {ds : List D} {xs : List V}, RepL K G H ds xs → RepL K G H ds.reverse xs.reverse
  | [], _, h => by unfold RepL at h; subst h; simp [repL_nil]
  | _ :: _, _, h => by
    unfold RepL at h
    obtain ⟨x, t, rfl, h1, h2⟩ := h
    simp only [List.reverse_cons]
    exact (RepL.reverse h2).append (repL_one h1)
theorem RepL.dropLast {ds : List D} {xs : List V} (h : RepL K G H ds xs) : RepL K G H ds.dropLast xs.dropLast := by
  rw [List.dropLast_eq_take, List.dropLast_eq_take, h.length]
  exact h.take _
theorem RepL.rep {ds : List D} {xs : List V} (h : RepL K G H ds xs) : ∀ k : Nat, RepL K G H (List.replicate k ds).flatten (List.replicate k xs).flatten
  | 0 => by simp [repL_nil]
  | k + 1 => by simp only [List.replicate_succ, List.flatten_cons]; exact h.append (RepL.rep h k)
theorem repL_ints : ∀ {ns : List Int} {xs : List V}, RepL K G H (ns.map D.int) xs → xs = ns.map V.int
  | [], _, h => by simpa [RepL] using h
  | n :: ns, _, h => by
    simp only [List.map_cons] at h
    unfold RepL at h
    obtain ⟨x, t, rfl, h1, h2⟩ := h
    unfold RepV at h1
    rw [h1, repL_ints h2]; rfl
theorem repL_of_ints : ∀ {ns : List Int}, RepL K G H (ns.map D.int) (ns.map V.int)
  | [] => repL_nil
  | n :: ns => repL_cons (by unfold RepV; rfl) repL_of_ints
theorem GOk.new (g : GOk K G H) {p : Addr} {o : HO} (h : H p = none) : GOk K G (upd H p o) := fun a u e => by
  have x := g a u e
  have ex : Ext G H G (upd H p o) := Ext.new h
  have n : a ≠ p := by obtain ⟨w, ew⟩ := x.there; exact ne_of_none ew h
  cases u with
  | lst ds => obtain ⟨xs, e1, r⟩ := x; exact ⟨xs, by rw [upd_ne n]; exact e1, r.ext ex⟩
  | dct kvs => obtain ⟨xs, e1, e2, r⟩ := x; exact ⟨xs, by rw [upd_ne n]; exact e1, e2, r.ext ex⟩
  | raw w => show upd H p o a = some w; rw [upd_ne n]; exact x
theorem GOk.put (g : GOk K G H) {p : Addr} {o : HO} {u : DO} (ex : Ext G H (updG G p u) (upd H p o)) (new : DOk K (updG G p u) (upd H p o) p u) : GOk K (updG G p u) (upd H p o) := fun a w e => by
  by_cases n : a = p
  · subst n
    rw [updG_same] at e; cases e
    exact new
  · rw [updG_ne n] at e
    have x := g a w e
    cases w with
    | lst ds => obtain ⟨xs, e1, r⟩ := x; exact ⟨xs, by rw [upd_ne n]; exact e1, r.ext ex⟩
    | dct kvs => obtain ⟨xs, e1, e2, r⟩ := x; exact ⟨xs, by rw [upd_ne n]; exact e1, e2, r.ext ex⟩
    | raw w => show upd H p o a = some w; rw [upd_ne n]; exact x
theorem GOk.drop (g : GOk K G H) {p : Addr} : GOk K (dropG G p) H := fun a w e => by
  by_cases n : a = p
  · subst n; rw [dropG_same] at e; cases e
  · rw [dropG_ne n] at e
    have ex : Ext G H (dropG G p) H := Ext.drop
    have x := g a w e
    cases w with
    | lst ds => obtain ⟨xs, e1, r⟩ := x; exact ⟨xs, e1, r.ext ex⟩
    | dct kvs => obtain ⟨xs, e1, e2, r⟩ := x; exact ⟨xs, e1, e2, r.ext ex⟩
    | raw w => exact x
end
end Dl

namespace Dl
open PySem L2

abbrev DSt := List (Option D)
def sl : DSt → Nat → Option D
  | [], _ => none
  | x :: _, 0 => x
  | _ :: r, i + 1 => sl r i
theorem sl_get : ∀ {ρ : DSt} {i : Nat} {d : D}, sl ρ i = some d → ρ[i]? = some (some d)
  | [], _, _, h => by simp [sl] at h
  | _ :: _, 0, _, h => by simp [sl] at h; simp [h]
  | _ :: r, i + 1, d, h => by simp [sl] at h; simpa using sl_get h
structure DRel (K : PySem.W.Frag) (σ : St) (H : Hp) (ρ : DSt) (G : GH) : Prop where
  len : ρ.length = σ.length
  at_ : ∀ (i : Nat) (d : D), ρ[i]? = some (some d) → ∃ v, σ[i]? = some (some v) ∧ RepV K G H d v
  gok : GOk K G H
section
variable {K : PySem.W.Frag} {σ : St} {H H' : Hp} {ρ : DSt} {G G' : GH}
theorem DRel.ext (r : DRel K σ H ρ G) (e : Ext G H G' H') (g : GOk K G' H') : DRel K σ H' ρ G' :=
  ⟨r.len, fun i d h => let ⟨v, h1, h2⟩ := r.at_ i d h; ⟨v, h1, h2.ext e⟩, g⟩
theorem DRel.set (r : DRel K σ H ρ G) (i : Nat) {d : D} {v : V} (h : RepV K G H d v) : DRel K (σ.set i (some v)) H (ρ.set i (some d)) G := by
  refine ⟨by simp [r.len], fun j e hj => ?_, r.gok⟩
  by_cases q : i = j
  · subst q
    by_cases hl : i < ρ.length
    · rw [List.getElem?_set_self hl] at hj
      cases hj
      exact ⟨v, List.getElem?_set_self (by rw [← r.len]; exact hl), h⟩
    · rw [List.getElem?_eq_none (by simpa using hl)] at hj; cases hj
  · rw [List.getElem?_set_ne q] at hj
    obtain ⟨w, h1, h2⟩ := r.at_ j e hj
    exact ⟨w, by rw [List.getElem?_set_ne q]; exact h1, h2⟩
theorem DRel.sl (r : DRel K σ H ρ G) {i : Nat} {d : D} (h : Dl.sl ρ i = some d) : ∃ v, σ[i]? = some (some v) ∧ RepV K G H d v := r.at_ i d (sl_get h)
end

abbrev DK := D → GH → Prop
abbrev DTE := DSt → GH → DK → Prop
abbrev DTT := DSt → GH → (Bool → GH → Prop) → Prop
abbrev DTA := DSt → GH → (List D → GH → Prop) → Prop
structure DEnds where
  nx : DSt → GH → Prop
  rt : DK
  bk : DSt → GH → Prop := fun _ _ => False
  ct : DSt → GH → Prop := fun _ _ => False
abbrev DTS := DEnds → DSt → GH → Prop
abbrev DTG := D → DSt → GH → (DSt → GH → Prop) → Prop
abbrev DTGs := List D → DSt → GH → (DSt → GH → Prop) → Prop

def up (K : PySem.W.Frag) (t : DTE) : TE := fun σ H Qv => ∃ ρ G Q, DRel K σ H ρ G ∧ t ρ G Q ∧ ∀ v d H' G', Ext G H G' H' → DRel K σ H' ρ G' → RepV K G' H' d v → Q d G' → Qv v H'
def upT (K : PySem.W.Frag) (t : DTT) : TT := fun σ H Qv => ∃ ρ G Q, DRel K σ H ρ G ∧ t ρ G Q ∧ ∀ b H' G', Ext G H G' H' → DRel K σ H' ρ G' → Q b G' → Qv b H'
def upA (K : PySem.W.Frag) (t : DTA) : TA := fun σ H Qv => ∃ ρ G Q, DRel K σ H ρ G ∧ t ρ G Q ∧ ∀ vs ds H' G', Ext G H G' H' → DRel K σ H' ρ G' → RepL K G' H' ds vs → Q ds G' → Qv vs H'
def upS (K : PySem.W.Frag) (t : DTS) : TS := fun Dv σ H => ∃ (ρ : DSt) (G : GH) (E : DEnds), DRel K σ H ρ G ∧ t E ρ G ∧
  (∀ σ' ρ' H' G', Ext G H G' H' → DRel K σ' H' ρ' G' → E.nx ρ' G' → Dv.nx σ' H') ∧
  (∀ v d H' G', Ext G H G' H' → GOk K G' H' → RepV K G' H' d v → E.rt d G' → Dv.rt v H') ∧
  (∀ σ' ρ' H' G', Ext G H G' H' → DRel K σ' H' ρ' G' → E.bk ρ' G' → Dv.bk σ' H') ∧
  (∀ σ' ρ' H' G', Ext G H G' H' → DRel K σ' H' ρ' G' → E.ct ρ' G' → Dv.ct σ' H')
def upG (K : PySem.W.Frag) (g : DTG) : TG := fun v σ H Qv => ∃ ρ G d Q, DRel K σ H ρ G ∧ RepV K G H d v ∧ g d ρ G Q ∧ ∀ σ' ρ' H' G', Ext G H G' H' → DRel K σ' H' ρ' G' → Q ρ' G' → Qv σ' H'
def upGs (K : PySem.W.Frag) (g : DTGs) : TGs := fun vs σ H Qv => ∃ ρ G ds Q, DRel K σ H ρ G ∧ RepL K G H ds vs ∧ g ds ρ G Q ∧ ∀ σ' ρ' H' G', Ext G H G' H' → DRel K σ' H' ρ' G' → Q ρ' G' → Qv σ' H'

abbrev DE (X : Cx) (e : Expr) (t : DTE) : Prop := PE X e (up X.K t)
abbrev DT (X : Cx) (e : Expr) (t : DTT) : Prop := PT X e (upT X.K t)
abbrev DA (X : Cx) (es : List Expr) (t : DTA) : Prop := PA X es (upA X.K t)
abbrev DS (X : Cx) (st : Stmt) (t : DTS) : Prop := PS X st (upS X.K t)
abbrev DSs (X : Cx) (sts : List Stmt) (t : DTS) : Prop := PSs X sts (upS X.K t)
abbrev DG (X : Cx) (e : Expr) (t : DTG) : Prop := PG X e (upG X.K t)
abbrev DGs (X : Cx) (es : List Expr) (t : DTGs) : Prop := PGs X es (upGs X.K t)

section
variable {X : Cx}
theorem _root_.L2.PE.imp {e : Expr} {t t' : TE} (h : PE X e t) (i : ∀ σ H Q, t' σ H Q → t σ H Q) : PE X e t' := ⟨fun pins s σ H Q I q => h.run pins s σ H Q I (i σ H Q q)⟩
theorem _root_.L2.PT.imp {e : Expr} {t t' : TT} (h : PT X e t) (i : ∀ σ H Q, t' σ H Q → t σ H Q) : PT X e t' := ⟨fun pins s σ H Q I q => h.run pins s σ H Q I (i σ H Q q)⟩
theorem _root_.L2.PW.imp {e : Expr} {t t' : TT} (h : PW X e t) (i : ∀ σ H Q, t' σ H Q → t σ H Q) : PW X e t' := ⟨fun wh pins s σ H Q I q => h.run wh pins s σ H Q I (i σ H Q q)⟩
theorem _root_.L2.PA.imp {es : List Expr} {t t' : TA} (h : PA X es t) (i : ∀ σ H Q, t' σ H Q → t σ H Q) : PA X es t' := ⟨fun pos pins s σ H Q I q => h.run pos pins s σ H Q I (i σ H Q q)⟩
theorem _root_.L2.PS.imp {st : Stmt} {t t' : TS} (h : PS X st t) (i : ∀ D σ H, t' D σ H → t D σ H) : PS X st t' := ⟨fun pins s σ H D I q => h.run pins s σ H D I (i D σ H q)⟩
theorem _root_.L2.PSs.imp {st : List Stmt} {t t' : TS} (h : PSs X st t) (i : ∀ D σ H, t' D σ H → t D σ H) : PSs X st t' := ⟨fun pins s σ H D I q => h.run pins s σ H D I (i D σ H q)⟩
theorem _root_.L2.PG.imp {e : Expr} {t t' : TG} (h : PG X e t) (i : ∀ v σ H Q, t' v σ H Q → t v σ H Q) : PG X e t' := ⟨fun pins s σ H v u Q I r q => h.run pins s σ H v u Q I r (i v σ H Q q)⟩
theorem _root_.L2.PGs.imp {es : List Expr} {t t' : TGs} (h : PGs X es t) (i : ∀ v σ H Q, t' v σ H Q → t v σ H Q) : PGs X es t' := ⟨fun pins s σ H v u Q I r q => h.run pins s σ H v u Q I r (i v σ H Q q)⟩

@[simp] def dVar (i : Nat) : DTE := fun ρ G Q => match sl ρ i with
  | some d => Q d G
  | none => False
@[simp] def dC (d : D) : DTE := fun _ G Q => Q d G
theorem dVar_of {ρ : DSt} {G : GH} {Q : DK} {i : Nat} (h : dVar i ρ G Q) : ∃ d, sl ρ i = some d ∧ Q d G := by
  unfold dVar at h
  split at h
  · exact ⟨_, by assumption, h⟩
  · exact h.elim
theorem de_var {i : Nat} {x : Str} {pos : Pos} (hN : X.N[i]? = some x) (hv : Vis X.env.scope x) (hd : (x == ("__debug__" : Str)) = false := by decide) (hcd : (x == ("__classdict__" : Str)) = false := by decide) : DE X (.Name x pos) (dVar i) := by
  refine (pe_var hN hv hd hcd).imp fun σ H Q ⟨ρ, G, q, r, h, k⟩ => ?_
  obtain ⟨d, e, h⟩ := dVar_of h
  obtain ⟨v, e1, e2⟩ := r.sl e
  exact ⟨v, e1, k v d H G (Ext.refl G H) r e2 h⟩
theorem dv (i : Nat) {x : Str} {pos : Pos} (hN : X.N[i]? = some x := by rfl) (hv : Vis X.env.scope x := by first | exact Or.inl rfl | exact Or.inr (Or.inl rfl) | exact Or.inr (Or.inr rfl)) (hd : (x == ("__debug__" : Str)) = false := by decide)
    (hcd : (x == ("__classdict__" : Str)) = false := by decide) : DE X (.Name x pos) (dVar i) := de_var hN hv hd hcd
theorem de_c {e : Expr} {v : V} {d : D} (h : PE X e (tC v)) (r : ∀ G H, RepV X.K G H d v) : DE X e (dC d) :=
  h.imp fun σ H Q ⟨ρ, G, q, rel, h, k⟩ => k v d H G (Ext.refl G H) rel (r G H) h
theorem de_int {i j pos} : DE X (.Constant (.int i) j pos) (dC (.int i)) := de_c pe_int fun _ _ => by unfold RepV; rfl
theorem de_bl {b j pos} : DE X (.Constant (.bool b) j pos) (dC (.bl b)) := de_c pe_bl fun _ _ => by unfold RepV; rfl
theorem de_str {x j pos} : DE X (.Constant (.str x) j pos) (dC (.str x)) := de_c pe_str fun _ _ => by unfold RepV; rfl
def GlD (X : Cx) (x : Str) (d : D) : Prop := ∃ u, X.mg x = some u ∧ ∃ v, RelV v u ∧ ∀ G H, RepV X.K G H d v
theorem de_glob {x : Str} {d : D} {pos : Pos} (hg : Gl X x) (hm : GlD X x d) (hd : (x == ("__debug__" : Str)) = false := by decide) : DE X (.Name x pos) (dC d) := by
  obtain ⟨u, h1, v, h2, h3⟩ := hm
  exact de_c (pe_glob hg h1 h2 hd) h3

@[simp] def dNil : DTA := fun _ G Q => Q [] G
@[simp] def dCons (ta : DTE) (tr : DTA) : DTA := fun ρ G Q => ta ρ G fun x G1 => tr ρ G1 fun xs G2 => Q (x :: xs) G2
theorem da_nil : DA X [] dNil := (pa_nil (X := X)).imp fun σ H Q ⟨ρ, G, q, r, h, k⟩ => k [] [] H G (Ext.refl G H) r repL_nil h
theorem da_cons {e : Expr} {es : List Expr} {te : DTE} {t : DTA} (ha : DE X e te) (hr : DA X es t) (hs : starEach (e :: es) X.env = (false, eval e X.env) :: starEach es X.env := by rfl) : DA X (e :: es) (dCons te t) := by
  refine (pa_cons ha hr hs).imp fun σ H Q ⟨ρ, G, q, r, h, k⟩ => ?_
  refine ⟨ρ, G, _, r, h, fun v d H1 G1 e1 r1 v1 h1 => ?_⟩
  refine ⟨ρ, G1, _, r1, h1, fun vs ds H2 G2 e2 r2 v2 h2 => ?_⟩
  exact k (v :: vs) (d :: ds) H2 G2 (e1.trans e2) r2 (repL_cons (v1.ext e2) v2) h2
@[simp] def dTup (t : DTA) : DTE := fun ρ G Q => t ρ G fun xs G1 => xs.length ≤ sizeLine ∧ Q (.tup xs) G1
@[simp] def dLst (t : DTA) : DTE := fun ρ G Q => t ρ G fun xs G1 => xs.length ≤ sizeLine ∧ ∀ p, G1 p = none → Q (.ref p) (updG G1 p (.lst xs))
theorem DRel.newTup {K : PySem.W.Frag} {σ : St} {H : Hp} {ρ : DSt} {G : GH} {p : Addr} {ds : List D} {vs : List V} (r : DRel K σ H ρ G) (hp : H p = none) (hv : RepL K G H ds vs) :
    Ext G H G (upd H p (.tup vs)) ∧ DRel K σ (upd H p (.tup vs)) ρ G ∧ RepV K G (upd H p (.tup vs)) (.tup ds) (.ref p) := by
  have e : Ext G H G (upd H p (.tup vs)) := Ext.new hp
  refine ⟨e, r.ext e (r.gok.new hp), ?_⟩
  unfold RepV
  exact ⟨p, vs, rfl, .inl ⟨r.gok.fresh hp, .inl upd_same⟩, hv.ext e⟩
theorem DRel.newLst {K : PySem.W.Frag} {σ : St} {H : Hp} {ρ : DSt} {G : GH} {p : Addr} {ds : List D} {vs : List V} (r : DRel K σ H ρ G) (hp : H p = none) (hv : RepL K G H ds vs) :
    Ext G H (updG G p (.lst ds)) (upd H p (.lst vs)) ∧ DRel K σ (upd H p (.lst vs)) ρ (updG G p (.lst ds)) ∧ RepV K (updG G p (.lst ds)) (upd H p (.lst vs)) (.ref p) (.ref p) := by
  have e : Ext G H (updG G p (.lst ds)) (upd H p (.lst vs)) := Ext.newG hp
  refine ⟨e, r.ext e (r.gok.put e ⟨vs, upd_same, hv.ext e⟩), by unfold RepV; rfl⟩
theorem de_tup {es : List Expr} {t : DTA} {x1} {pos : Pos} (h : DA X es t) : DE X (.Tuple es x1 pos) (dTup t) := by
  refine (pe_tup h).imp fun σ H Q ⟨ρ, G, q, r, h, k⟩ => ?_
  refine ⟨ρ, G, _, r, h, fun vs ds H1 G1 e1 r1 v1 ⟨z, h1⟩ => ⟨by rw [v1.length]; exact z, fun p hp => ?_⟩⟩
  obtain ⟨e2, r2, v2⟩ := r1.newTup hp v1
  exact k _ _ _ _ (e1.trans e2) r2 v2 h1
theorem de_lst {es : List Expr} {t : DTA} {pos : Pos} (h : DA X es t) : DE X (.List es pos) (dLst t) := by
  refine (pe_lst h).imp fun σ H Q ⟨ρ, G, q, r, h, k⟩ => ?_
  refine ⟨ρ, G, _, r, h, fun vs ds H1 G1 e1 r1 v1 ⟨z, h1⟩ => ⟨by rw [v1.length]; exact z, fun p hp => ?_⟩⟩
  obtain ⟨e2, r2, v2⟩ := r1.newLst hp v1
  exact k _ _ _ _ (e1.trans e2) r2 v2 (h1 p (r1.gok.fresh hp))
@[simp] def dFrz (t : DTE) : DTE := fun ρ G Q => t ρ G fun d G1 => match d with
  | .ref p => (match G1 p with
    | some (.lst ds) => Q (.lst ds) (dropG G1 p)
    | _ => Q (.ref p) G1)
  | d => Q d G1
theorem de_frz {e : Expr} {t : DTE} (h : DE X e t) : DE X e (dFrz t) := by
  refine PE.imp h fun σ H Q ⟨ρ, G, q, r, h, k⟩ => ?_
  refine ⟨ρ, G, _, r, h, fun v d H1 G1 e1 r1 v1 h1 => ?_⟩
  cases d with
  | ref p =>
    dsimp only at h1
    cases q : G1 p with
    | none => rw [q] at h1; exact k _ _ _ _ e1 r1 v1 h1
    | some o =>
      rw [q] at h1
      cases o with
      | lst ds =>
        dsimp only at h1
        obtain ⟨xs, hx, rx⟩ := r1.gok p _ q
        have e2 : Ext G1 H1 (dropG G1 p) H1 := Ext.drop
        refine k v (.lst ds) H1 (dropG G1 p) (e1.trans e2) (r1.ext e2 r1.gok.drop) ?_ h1
        unfold RepV at v1 ⊢
        exact ⟨p, xs, v1, ⟨dropG_same, hx⟩, rx.ext e2⟩
      | dct kvs => exact k _ _ _ _ e1 r1 v1 h1
      | raw o => exact k _ _ _ _ e1 r1 v1 h1
  | _ => exact k _ _ _ _ e1 r1 v1 h1

abbrev DR2 := D → D → GH → DK → Prop
def upR (K : PySem.W.Frag) (r : DR2) : R2 := fun x y H Qv => ∃ (G : GH) (dx dy : D) (Q : DK), GOk K G H ∧ RepV K G H dx x ∧ RepV K G H dy y ∧ r dx dy G Q ∧ ∀ v d H' G', Ext G H G' H' → GOk K G' H' → RepV K G' H' d v → Q d G' → Qv v H'
abbrev DOp (X : Cx) (f : Value → Value → Sem Value) (r : DR2) : Prop := OpR X f (upR X.K r)
@[simp] def dOp (r : DR2) (ta tb : DTE) : DTE := fun ρ G Q => ta ρ G fun x G1 => tb ρ G1 fun y G2 => r x y G2 Q
theorem up_op {K : PySem.W.Frag} {r : DR2} {ta tb : DTE} {σ : St} {H : Hp} {Q : VK} (h : up K (dOp r ta tb) σ H Q) : tOp (upR K r) (up K ta) (up K tb) σ H Q := by
  obtain ⟨ρ, G, q, r0, h, k⟩ := h
  refine ⟨ρ, G, _, r0, h, fun x dx H1 G1 e1 r1 v1 h1 => ?_⟩
  refine ⟨ρ, G1, _, r1, h1, fun y dy H2 G2 e2 r2 v2 h2 => ?_⟩
  exact ⟨G2, dx, dy, q, r2.gok, v1.ext e2, v2, h2, fun v d H' G' e3 g3 v3 h3 => k v d H' G' ((e1.trans e2).trans e3) (r2.ext e3 g3) v3 h3⟩
theorem de_op {op : Operator} {r : DR2} {a b : Expr} {ta tb : DTE} {pos : Pos} (ho : DOp X (binaryOp op) r) (ha : DE X a ta) (hb : DE X b tb) : DE X (.BinOp a op b pos) (dOp r ta tb) :=
  (pe_op ho ha hb).imp fun _ _ _ h => up_op h
theorem de_cmp {op : CmpOp} {r : DR2} {a b : Expr} {ta tb : DTE} {pos : Pos} (ho : DOp X (compareOp op) r) (ha : DE X a ta) (hb : DE X b tb) (hm : behindInMarks op b = false) : DE X (.Compare a [op] [b] pos) (dOp r ta tb) :=
  (pe_cmpR ho ha hb hm).imp fun _ _ _ h => up_op h
@[simp] def dTst (t : DTE) : DTT := fun ρ G Q => t ρ G fun d G1 => match d with
  | .bl b => Q b G1
  | _ => False
theorem up_tst {K : PySem.W.Frag} {t : DTE} {σ : St} {H : Hp} {Q : Bool → Hp → Prop} (h : upT K (dTst t) σ H Q) : up K t σ H fun x H1 => ∃ k, x = .bl k ∧ Q k H1 := by
  obtain ⟨ρ, G, q, r0, h, k⟩ := h
  refine ⟨ρ, G, _, r0, h, fun x dx H1 G1 e1 r1 v1 h1 => ?_⟩
  cases dx with
  | bl b => unfold RepV at v1; exact ⟨b, v1, k b H1 G1 e1 r1 h1⟩
  | _ => exact h1.elim
theorem dt_cmp {op : CmpOp} {r : DR2} {a b : Expr} {ta tb : DTE} {pos : Pos} (ho : DOp X (compareOp op) r) (ha : DE X a ta) (hb : DE X b tb) (hm : behindInMarks op b = false) : DT X (.Compare a [op] [b] pos) (dTst (dOp r ta tb)) := by
  refine (pt_cmpR ho ha hb hm).imp fun σ H Q h => ?_
  exact up_op (up_tst h)
end
end Dl

namespace Dl
open PySem L2
section
variable {X : Cx}

@[simp] def dAnd (t u : DTT) : DTT := fun ρ G Q => t ρ G fun c G1 => if c = true then u ρ G1 Q else Q false G1
@[simp] def dOr (t u : DTT) : DTT := fun ρ G Q => t ρ G fun c G1 => if c = true then Q true G1 else u ρ G1 Q
@[simp] def dNot (t : DTT) : DTT := fun ρ G Q => t ρ G fun c G1 => Q (!c) G1
theorem up_and {K : PySem.W.Frag} {t u : DTT} {σ : St} {H : Hp} {Q : Bool → Hp → Prop} (h : upT K (dAnd t u) σ H Q) : tAnd (upT K t) (upT K u) σ H Q := by
  obtain ⟨ρ, G, q, r, h, k⟩ := h
  refine ⟨ρ, G, _, r, h, fun b H1 G1 e1 r1 h1 => ?_⟩
  cases b with
  | true => exact ⟨ρ, G1, q, r1, h1, fun b H' G' e r h => k b H' G' (e1.trans e) r h⟩
  | false => exact k false H1 G1 e1 r1 h1
theorem up_or {K : PySem.W.Frag} {t u : DTT} {σ : St} {H : Hp} {Q : Bool → Hp → Prop} (h : upT K (dOr t u) σ H Q) : tOr (upT K t) (upT K u) σ H Q := by
  obtain ⟨ρ, G, q, r, h, k⟩ := h
  refine ⟨ρ, G, _, r, h, fun b H1 G1 e1 r1 h1 => ?_⟩
  cases b with
  | false => exact ⟨ρ, G1, q, r1, h1, fun b H' G' e r h => k b H' G' (e1.trans e) r h⟩
  | true => exact k true H1 G1 e1 r1 h1
abbrev DW (X : Cx) (e : Expr) (t : DTT) : Prop := PW X e (upT X.K t)
theorem dw_and1 {a : Expr} {t : DTT} {pos : Pos} (h : DT X a t) : DW X (.BoolOp .And [a] pos) t := pw_and1 h
theorem dw_or1 {a : Expr} {t : DTT} {pos : Pos} (h : DT X a t) : DW X (.BoolOp .Or [a] pos) t := pw_or1 h
theorem dw_and {a b : Expr} {rest : List Expr} {t u : DTT} {pos : Pos} (h : DT X a t) (hb : DW X (.BoolOp .And (b :: rest) pos) u) : DW X (.BoolOp .And (a :: b :: rest) pos) (dAnd t u) := (pw_and h hb).imp fun _ _ _ h => up_and h
theorem dw_or {a b : Expr} {rest : List Expr} {t u : DTT} {pos : Pos} (h : DT X a t) (hb : DW X (.BoolOp .Or (b :: rest) pos) u) : DW X (.BoolOp .Or (a :: b :: rest) pos) (dOr t u) := (pw_or h hb).imp fun _ _ _ h => up_or h
theorem dt_w {e : Expr} {t : DTT} (h : DW X e t) : DT X e t := h.pt
theorem dt_not {a : Expr} {t : DTT} {pos : Pos} (h : DT X a t) : DT X (.UnaryOp .Not a pos) (dNot t) := by
  refine PT.imp (pt_not h) fun σ H Q ⟨ρ, G, q, r, h, k⟩ => ?_
  exact ⟨ρ, G, _, r, h, fun b H1 G1 e1 r1 h1 => k (!b) H1 G1 e1 r1 h1⟩
@[simp] def dAndV (ta tb : DTE) : DTE := fun ρ G Q => ta ρ G fun x G1 => match x with
  | .bl true => tb ρ G1 Q
  | .bl false => Q (.bl false) G1
  | _ => False
theorem de_one {op : BoolOp} {a : Expr} {t : DTE} {pos : Pos} (h : DE X a t) : DE X (.BoolOp op [a] pos) t := pe_one h
theorem de_and {a b : Expr} {rest : List Expr} {ta tb : DTE} {pos : Pos} (h : DE X a ta) (hb : DE X (.BoolOp .And (b :: rest) pos) tb) : DE X (.BoolOp .And (a :: b :: rest) pos) (dAndV ta tb) := by
  refine (pe_and h hb).imp fun σ H Q ⟨ρ, G, q, r, h, k⟩ => ?_
  refine ⟨ρ, G, _, r, h, fun v d H1 G1 e1 r1 v1 h1 => ?_⟩
  cases d with
  | bl c =>
    unfold RepV at v1
    refine ⟨c, v1, ?_⟩
    cases c with
    | true => exact ⟨ρ, G1, q, r1, h1, fun v d H' G' e r v' h => k v d H' G' (e1.trans e) r v' h⟩
    | false => exact k _ (.bl false) H1 G1 e1 r1 (by unfold RepV; rfl) h1
  | _ => exact h1.elim
@[simp] def dNotV (ta : DTE) : DTE := fun ρ G Q => ta ρ G fun x G1 => match x with
  | .bl c => Q (.bl (!c)) G1
  | _ => False
theorem de_not {a : Expr} {ta : DTE} {pos : Pos} (h : DE X a ta) : DE X (.UnaryOp .Not a pos) (dNotV ta) := by
  refine PE.imp (pe_not h) fun σ H Q ⟨ρ, G, q, r, h, k⟩ => ?_
  refine ⟨ρ, G, _, r, h, fun v d H1 G1 e1 r1 v1 h1 => ?_⟩
  cases d with
  | bl c =>
    unfold RepV at v1
    exact ⟨c, v1, k _ (.bl (!c)) H1 G1 e1 r1 (by unfold RepV; rfl) h1⟩
  | _ => exact h1.elim
@[simp] def dIf (c : DTT) (ta tb : DTE) : DTE := fun ρ G Q => c ρ G fun b G1 => if b = true then ta ρ G1 Q else tb ρ G1 Q
theorem de_if {c a b : Expr} {tc : DTT} {ta tb : DTE} {pos : Pos} (hc : DT X c tc) (ha : DE X a ta) (hb : DE X b tb) : DE X (.IfExp c a b pos) (dIf tc ta tb) := by
  refine (pe_ifExp hc ha hb).imp fun σ H Q ⟨ρ, G, q, r, h, k⟩ => ?_
  refine ⟨ρ, G, _, r, h, fun b H1 G1 e1 r1 h1 => ?_⟩
  cases b with
  | true => exact ⟨ρ, G1, q, r1, h1, fun v d H' G' e r v' h => k v d H' G' (e1.trans e) r v' h⟩
  | false => exact ⟨ρ, G1, q, r1, h1, fun v d H' G' e r v' h => k v d H' G' (e1.trans e) r v' h⟩

@[simp] def dNext : DTS := fun E ρ G => E.nx ρ G
@[simp] def dSeq (t u : DTS) : DTS := fun E ρ G => t { E with nx := u E } ρ G
theorem ds_nil : DSs X [] dNext := (pss_nil (X := X)).imp fun D σ H ⟨ρ, G, E, r, h, k1, _⟩ => k1 σ ρ H G (Ext.refl G H) r h
theorem ds_one {st : Stmt} {t : DTS} (h : DS X st t) : DSs X [st] t := pss_one h
theorem ds_cons {st : Stmt} {rest : List Stmt} {t u : DTS} (h : DS X st t) (h2 : DSs X rest u) : DSs X (st :: rest) (dSeq t u) := by
  refine (pss_cons h h2).imp fun D σ H ⟨ρ, G, E, r, h, k1, k2, k3, k4⟩ => ?_
  refine ⟨ρ, G, { E with nx := u E }, r, h, fun σ' ρ' H' G' e r' h' => ?_, k2, k3, k4⟩
  exact ⟨ρ', G', E, r', h', fun a b c d e' => k1 a b c d (e.trans e'), fun a b c d e' => k2 a b c d (e.trans e'), fun a b c d e' => k3 a b c d (e.trans e'), fun a b c d e' => k4 a b c d (e.trans e')⟩
@[simp] def dDrop (te : DTE) : DTS := fun E ρ G => te ρ G fun _ G1 => E.nx ρ G1
theorem ds_expr {e : Expr} {te : DTE} {pos : Pos} (he : DE X e te) (hs : swapsWith e none pos.line X.env = pure false := by rfl) : DS X (.Expr e pos) (dDrop te) := by
  refine (ps_expr he hs).imp fun D σ H ⟨ρ, G, E, r, h, k1, _⟩ => ?_
  exact ⟨ρ, G, _, r, h, fun v d H' G' e r' v' h' => k1 σ ρ H' G' e r' h'⟩
@[simp] def dRet (te : DTE) : DTS := fun E ρ G => te ρ G E.rt
theorem ds_ret {e : Expr} {te : DTE} {pos : Pos} (he : DE X e te) : DS X (.Return (some e) pos) (dRet te) := by
  refine (ps_ret he).imp fun D σ H ⟨ρ, G, E, r, h, _, k2, _⟩ => ?_
  exact ⟨ρ, G, _, r, h, fun v d H' G' e r' v' h' => k2 v d H' G' e r'.gok v' h'⟩
@[simp] def dRetN : DTS := fun E _ G => E.rt .non G
@[simp] def dIfS (c : DTT) (t u : DTS) : DTS := fun E ρ G => c ρ G fun b G1 => if b = true then t E ρ G1 else u E ρ G1
theorem upS_ext {K : PySem.W.Frag} {t : DTS} {Dv : Ends} {σ : St} {H H1 : Hp} {ρ : DSt} {G G1 : GH} {E : DEnds} (e : Ext G H G1 H1) (r1 : DRel K σ H1 ρ G1) (h : t E ρ G1)
    (k1 : ∀ σ' ρ' H' G', Ext G H G' H' → DRel K σ' H' ρ' G' → E.nx ρ' G' → Dv.nx σ' H')
    (k2 : ∀ v d H' G', Ext G H G' H' → GOk K G' H' → RepV K G' H' d v → E.rt d G' → Dv.rt v H')
    (k3 : ∀ σ' ρ' H' G', Ext G H G' H' → DRel K σ' H' ρ' G' → E.bk ρ' G' → Dv.bk σ' H')
    (k4 : ∀ σ' ρ' H' G', Ext G H G' H' → DRel K σ' H' ρ' G' → E.ct ρ' G' → Dv.ct σ' H') : upS K t Dv σ H1 :=
  ⟨ρ, G1, E, r1, h, fun a b c d e' => k1 a b c d (e.trans e'), fun a b c d e' => k2 a b c d (e.trans e'), fun a b c d e' => k3 a b c d (e.trans e'), fun a b c d e' => k4 a b c d (e.trans e')⟩
theorem ds_if {c : Expr} {a b : List Stmt} {tc : DTT} {t u : DTS} {pos : Pos} (hc : DT X c tc) (ha : DSs X a t) (hb : DSs X b u) : DS X (.If c a b pos) (dIfS tc t u) := by
  refine (ps_if hc ha hb).imp fun D σ H ⟨ρ, G, E, r, h, k1, k2, k3, k4⟩ => ?_
  refine ⟨ρ, G, _, r, h, fun b H1 G1 e1 r1 h1 => ?_⟩
  cases b with
  | true => exact upS_ext e1 r1 h1 k1 k2 k3 k4
  | false => exact upS_ext e1 r1 h1 k1 k2 k3 k4
@[simp] def gNm (i : Nat) : DTG := fun d ρ G Q => Q (ρ.set i (some d)) G
theorem dg_name {i : Nat} {x : Str} {pos : Pos} (hN : X.N.Nodup) (hi : X.N[i]? = some x) (hx : Loc X.env.scope x) (hf : X.fn x = true ∨ X.env.scope.names.lookup x = some .local := by first | exact .inl rfl | exact .inr rfl | assumption) : DG X (.Name x pos) (gNm i) :=
  (pg_name hN hi hx hf).imp fun v σ H Q ⟨ρ, G, d, q, r, rv, h, k⟩ => k _ _ H G (Ext.refl G H) (r.set i rv) h
@[simp] def gsNil : DTGs := fun ds ρ G Q => match ds with
  | [] => Q ρ G
  | _ => False
@[simp] def gsCons (t : DTG) (u : DTGs) : DTGs := fun ds ρ G Q => match ds with
  | d :: r => t d ρ G fun ρ' G' => u r ρ' G' Q
  | [] => False
theorem dgs_nil : DGs X [] gsNil := (pgs_nil (X := X)).imp fun v σ H Q ⟨ρ, G, ds, q, r, rv, h, k⟩ => by
  cases ds with
  | nil => unfold RepL at rv; exact ⟨rv, k σ ρ H G (Ext.refl G H) r h⟩
  | cons d ds => exact h.elim
theorem dgs_cons {e : Expr} {es : List Expr} {t : DTG} {u : DTGs} (h1 : DG X e t) (h2 : DGs X es u)
    (hs : (assignEach (e :: es) X.env).map (·.2) = assign e X.env :: (assignEach es X.env).map (·.2) := by rfl) : DGs X (e :: es) (gsCons t u) :=
  (pgs_cons h1 h2 hs).imp fun v σ H Q ⟨ρ, G, ds, q, r, rv, h, k⟩ => by
    cases ds with
    | nil => exact h.elim
    | cons d ds =>
      unfold RepL at rv
      obtain ⟨x, xs, rfl, hx, hxs⟩ := rv
      refine ⟨x, xs, rfl, ρ, G, d, _, r, hx, h, fun σ' ρ' H' G' e r' h' => ?_⟩
      exact ⟨ρ', G', ds, q, r', hxs.ext e, h', fun a b c d e' => k a b c d (e.trans e')⟩
@[simp] def gTp (n : Nat) (t : DTGs) : DTG := fun d ρ G Q => match d with
  | .tup xs => xs.length = n ∧ t xs ρ G Q
  | _ => False
theorem dg_tup {es : List Expr} {k : Nat} {t : DTGs} {n : Nat} {pos : Pos} (hc : X.calm = true) (h : DGs X es t)
    (hn : (assignEach es X.env).length = n := by rfl) (hst : (assignEach es X.env).findIdx? (·.1) = none := by rfl) : DG X (.Tuple es k pos) (gTp n t) :=
  (pg_tup hc h hn hst).imp fun v σ H Q ⟨ρ, G, d, q, r, rv, h, k⟩ => by
    cases d with
    | tup ds =>
      unfold RepV at rv
      obtain ⟨a, xs, rfl, ta, rl⟩ := rv
      exact ⟨a, xs, rfl, ta.sq, by rw [rl.length]; exact h.1, ρ, G, ds, q, r, rl, h.2, k⟩
    | _ => exact h.elim
abbrev DSet := D → D → D → GH → (GH → Prop) → Prop
def upSet (K : PySem.W.Frag) (t : DSet) : TSet := fun o i v H Qv => ∃ (G : GH) (dO di d : D) (Q : GH → Prop), GOk K G H ∧ RepV K G H dO o ∧ RepV K G H di i ∧ RepV K G H d v ∧ t dO di d G Q ∧ ∀ H' G', Ext G H G' H' → GOk K G' H' → Q G' → Qv H'
@[simp] def gSb (to ti : DTE) (t : DSet) : DTG := fun d ρ G Q => to ρ G fun o G1 => ti ρ G1 fun i G2 => t o i d G2 fun G3 => Q ρ G3
theorem dg_sub {o i : Expr} {to ti : DTE} {t : DSet} {pos : Pos} (ho : DE X o to) (hi : DE X i ti) (hs : PSet X (upSet X.K t))
    (ha : ∀ v, assign (.Subscript o i pos) X.env v = (do
      let ov ← holding [v] (eval o X.env)
      let iv ← holding [v, ov] (eval i X.env)
      standAt pos
      holding [v, ov, iv] (setItem ov iv v)
      release [v, ov, iv] []) := by intro _; rfl) : DG X (.Subscript o i pos) (gSb to ti t) :=
  (pg_sub ho hi hs ha).imp fun v σ H Q ⟨ρ, G, d, q, r, rv, h, k⟩ => by
    refine ⟨ρ, G, _, r, h, fun ov od H1 G1 e1 r1 v1 h1 => ?_⟩
    refine ⟨ρ, G1, _, r1, h1, fun iv idd H2 G2 e2 r2 v2 h2 => ?_⟩
    refine ⟨G2, od, idd, d, _, r2.gok, v1.ext e2, v2, rv.ext (e1.trans e2), h2, fun H' G' e3 g3 h3 => ?_⟩
    exact k σ ρ H' G' ((e1.trans e2).trans e3) (r2.ext e3 g3) h3
@[simp] def dAsg (te : DTE) (g : DTG) : DTS := fun E ρ G => te ρ G fun x G1 => g x ρ G1 E.nx
theorem up_asg {K : PySem.W.Frag} {te : DTE} {g : DTG} {D : Ends} {σ : St} {H : Hp} (h : upS K (dAsg te g) D σ H) : tAsg (up K te) (upG K g) D σ H := by
  obtain ⟨ρ, G, E, r, h, k1, k2, k3, k4⟩ := h
  refine ⟨ρ, G, _, r, h, fun v d H1 G1 e1 r1 v1 h1 => ?_⟩
  exact ⟨ρ, G1, d, _, r1, v1, h1, fun a b c d e' => k1 a b c d (e1.trans e')⟩
theorem ds_asg {tg e : Expr} {te : DTE} {g : DTG} {pos : Pos} (he : DE X e te) (hg : DG X tg g) (hs : swapsWithSole [tg] e pos.line X.env = pure false := by rfl) (hw : swappedStores [tg] e X.env = pure none := by rfl)
    (h1 : (assignEach [tg] X.env).map (·.2) = [assign tg X.env] := by rfl) : DS X (.Assign [tg] e pos) (dAsg te g) := (ps_asg he hg hs hw h1).imp fun _ _ _ h => up_asg h
theorem ds_set {i : Nat} {x : Str} {e : Expr} {te : DTE} {pos pos' : Pos} (hN : X.N.Nodup) (hi : X.N[i]? = some x) (hx : Loc X.env.scope x) (he : DE X e te) (hs : swapsWith e (some (.Name x pos')) pos.line X.env = pure false := by rfl) (hf : X.fn x = true ∨ X.env.scope.names.lookup x = some .local := by first | exact .inl rfl | exact .inr rfl | assumption) :
    DS X (.Assign [.Name x pos'] e pos) (dAsg te (gNm i)) := by
  refine (ps_set hN hi hx he hs hf).imp fun D σ H ⟨ρ, G, E, r, h, k1, k2, k3, k4⟩ => ?_
  refine ⟨ρ, G, _, r, h, fun v d H1 G1 e1 r1 v1 h1 => ?_⟩
  exact k1 _ _ H1 G1 e1 (r1.set i v1) h1
@[simp] def dPar (i j : Nat) (ta : DTA) : DTS := fun E ρ G => ta ρ G fun ds G1 => match ds with
  | [v, w] => E.nx ((ρ.set i (some v)).set j (some w)) G1
  | _ => False
theorem ds_par {i j : Nat} {x y : Str} {a b : Expr} {ta : DTA} {px py pt pos : Pos} {kt k2 pt2} (hc : X.calm = true) (hN : X.N.Nodup) (hi : X.N[i]? = some x) (hj : X.N[j]? = some y) (hij : i ≠ j)
    (hx : X.env.scope.names.lookup x = some .local) (hy : X.env.scope.names.lookup y = some .local) (ha : DA X [a, b] ta)
    (hw : swappedStores [.Tuple [.Name x px, .Name y py] kt pt] (.Tuple [a, b] k2 pt2) X.env = pure (some [x, y]))
    (hs : swapsWithSole [.Tuple [.Name x px, .Name y py] kt pt] (.Tuple [a, b] k2 pt2) pos.line X.env = pure false := by rfl) :
    DS X (.Assign [.Tuple [.Name x px, .Name y py] kt pt] (.Tuple [a, b] k2 pt2) pos) (dPar i j ta) := by
  refine (ps_par hc hN hi hj hij hx hy ha hw hs).imp fun D σ H ⟨ρ, G, E, r, h, k1, k2, k3, k4⟩ => ?_
  refine ⟨ρ, G, _, r, h, fun vs ds H1 G1 e1 r1 v1 h1 => ?_⟩
  match ds, h1 with
  | [v, w], h1 =>
    unfold RepL at v1
    obtain ⟨x1, t1, rfl, y1, v1⟩ := v1
    unfold RepL at v1
    obtain ⟨x2, t2, rfl, y2, v1⟩ := v1
    unfold RepL at v1
    subst v1
    exact ⟨x1, x2, rfl, k1 _ _ H1 G1 e1 ((r1.set i y1).set j y2) h1⟩
  | [], h1 => exact h1.elim
  | [_], h1 => exact h1.elim
  | _ :: _ :: _ :: _, h1 => exact h1.elim

def dWhileGo (c : DTT) (tb : DTS) : Nat → DTS
  | 0, _, _, _ => False
  | n + 1, E, ρ, G => c ρ G fun b G1 => if b = true then tb { E with nx := dWhileGo c tb n E, ct := dWhileGo c tb n E, bk := E.nx } ρ G1 else E.nx ρ G1
def dWhile (c : DTT) (tb : DTS) : DTS := fun E ρ G => ∃ n, dWhileGo c tb n E ρ G
theorem ds_while {c : Expr} {body : List Stmt} {tc : DTT} {tb : DTS} {pos : Pos} (hp : PassesOwn (model X.prog X.w) X.A X.env X.xe) (hc : DT X c tc) (hb : DSs X body tb) : DS X (.While c body [] pos) (dWhile tc tb) := by
  refine (ps_while hp hc hb).imp fun D σ H ⟨ρ, G, E, r, ⟨n, h⟩, k1, k2, k3, k4⟩ => ?_
  refine ⟨fun m σ1 H1 => ∃ ρ1 G1, Ext G H G1 H1 ∧ DRel X.K σ1 H1 ρ1 G1 ∧ dWhileGo tc tb m E ρ1 G1, ⟨n, ρ, G, Ext.refl G H, r, h⟩, ?_⟩
  rintro m σ1 H1 ⟨ρ1, G1, e1, r1, h1⟩
  cases m with
  | zero => exact h1.elim
  | succ m =>
    unfold dWhileGo at h1
    refine ⟨ρ1, G1, _, r1, h1, fun b H2 G2 e2 r2 h2 => ?_⟩
    cases b with
    | false => exact k1 σ1 ρ1 H2 G2 (e1.trans e2) r2 h2
    | true =>
      refine ⟨fun σ3 H3 => ∃ ρ3 G3, Ext G H G3 H3 ∧ DRel X.K σ3 H3 ρ3 G3 ∧ dWhileGo tc tb m E ρ3 G3, fun σ3 H3 q => ⟨m, Nat.lt_succ_self m, q⟩, ?_⟩
      refine ⟨ρ1, G2, _, r2, h2, ?_, ?_, ?_, ?_⟩
      · exact fun σ' ρ' H' G' e' r' h' => ⟨ρ', G', (e1.trans e2).trans e', r', h'⟩
      · exact fun v d H' G' e' => k2 v d H' G' ((e1.trans e2).trans e')
      · exact fun σ' ρ' H' G' e' r' h' => k1 σ' ρ' H' G' ((e1.trans e2).trans e') r' h'
      · exact fun σ' ρ' H' G' e' r' h' => ⟨ρ', G', (e1.trans e2).trans e', r', h'⟩

def DIt (K : PySem.W.Frag) (J : It) (items : List D) (ok : GH → Prop) (G0 : GH) (H0 : Hp) : Prop :=
  ∀ G H, Ext G0 H0 G H → GOk K G H → ok G → ∀ i, (∀ d, items[i]? = some d → J.go i H ∧ ∀ x H1, J.yld i H x H1 → Ext G H G H1 ∧ GOk K G H1 ∧ RepV K G H1 d x) ∧ (i = items.length → J.stop i H)
abbrev DTI := DSt → GH → (List D → (GH → Prop) → GH → Prop) → Prop
def upI (K : PySem.W.Frag) (t : DTI) : TI := fun σ H R => ∃ ρ G Q, DRel K σ H ρ G ∧ t ρ G Q ∧ ∀ J items ok H' G', Ext G H G' H' → DRel K σ H' ρ G' → DIt K J items ok G' H' → Q items ok G' → R J H'
abbrev DI (X : Cx) (tg iter : Expr) (t : DTI) : Prop := PI X tg iter (upI X.K t)
theorem _root_.L2.PI.imp {tg iter : Expr} {t t' : TI} (h : PI X tg iter t) (i : ∀ σ H R, t' σ H R → t σ H R) : PI X tg iter t' := ⟨fun pins s σ H R I q => h.run pins s σ H R I (i σ H R q)⟩
def okAll : GH → Prop := fun _ => True
def rngD (lo : Int) (n : Nat) : List D := (List.range n).map fun i => D.int (lo + (i : Nat))
theorem dit_range {K : PySem.W.Frag} {lo : Int} {n : Nat} {G0 : GH} {H0 : Hp} : DIt K (Itr lo n) (rngD lo n) okAll G0 H0 := fun G H e g _ i => by
  refine ⟨fun d hd => ?_, fun hi => ?_⟩
  · unfold rngD at hd
    rw [List.getElem?_map] at hd
    by_cases hi : i < n
    · rw [List.getElem?_range hi] at hd
      simp at hd
      subst hd
      refine ⟨hi, fun x H1 hx => ?_⟩
      obtain ⟨rfl, rfl⟩ := hx
      exact ⟨Ext.refl _ _, g, by unfold RepV; rfl⟩
    · rw [List.getElem?_eq_none (by simpa using hi)] at hd
      simp at hd
  · unfold rngD at hi
    show n ≤ i
    simp at hi
    omega
@[simp] def iRg1 (t : DTA) : DTI := fun ρ G Q => t ρ G fun ds G1 => match ds with
  | [.int j] => -(2 ^ 62) ≤ j ∧ j < 2 ^ 62 ∧ Q (rngD 0 j.toNat) okAll G1
  | _ => False
@[simp] def iRg2 (t : DTA) : DTI := fun ρ G Q => t ρ G fun ds G1 => match ds with
  | [.int i, .int j] => (-(2 ^ 62) ≤ i ∧ i < 2 ^ 62 ∧ -(2 ^ 62) ≤ j ∧ j < 2 ^ 62) ∧ Q (rngD i (j - i).toNat) okAll G1
  | _ => False
theorem di_range1 {tg a : Expr} {t : DTA} {p pos : Pos} (hg : Gl X "range") (hm : X.mg "range" = none) (ha : DA X [a] t) (hs : starEach [a] X.env = [(false, eval a X.env)] := by rfl) : DI X tg (.Call (.Name "range" p) [a] [] pos) (iRg1 t) := by
  refine (pi_range1 hg hm ha hs).imp fun σ H R ⟨ρ, G, q, r, h, k⟩ => ?_
  refine ⟨ρ, G, _, r, h, fun vs ds H1 G1 e1 r1 v1 h1 => ?_⟩
  match ds, h1 with
  | [.int j], h1 =>
    unfold RepL at v1
    obtain ⟨x1, t1, rfl, y1, v1⟩ := v1
    unfold RepL at v1
    subst v1
    unfold RepV at y1
    subst y1
    exact ⟨j, rfl, h1.1, h1.2.1, k _ _ _ H1 G1 e1 r1 dit_range h1.2.2⟩
theorem di_range2 {tg a b : Expr} {t : DTA} {p pos : Pos} (hg : Gl X "range") (hm : X.mg "range" = none) (ha : DA X [a, b] t) (hs : starEach [a, b] X.env = [(false, eval a X.env), (false, eval b X.env)] := by rfl) (hs2 : starEach [b] X.env = [(false, eval b X.env)] := by rfl) :
    DI X tg (.Call (.Name "range" p) [a, b] [] pos) (iRg2 t) := by
  refine (pi_range2 hg hm ha hs hs2).imp fun σ H R ⟨ρ, G, q, r, h, k⟩ => ?_
  refine ⟨ρ, G, _, r, h, fun vs ds H1 G1 e1 r1 v1 h1 => ?_⟩
  match ds, h1 with
  | [.int i, .int j], h1 =>
    unfold RepL at v1
    obtain ⟨x1, t1, rfl, y1, v1⟩ := v1
    unfold RepL at v1
    obtain ⟨x2, t2, rfl, y2, v1⟩ := v1
    unfold RepL at v1
    subst v1
    unfold RepV at y1 y2
    subst y1 y2
    exact ⟨i, j, rfl, h1.1, k _ _ _ H1 G1 e1 r1 dit_range h1.2⟩

def dForGo (ok : GH → Prop) (g : DTG) (tb : DTS) : List D → DTS
  | [], E, ρ, G => ok G ∧ E.nx ρ G
  | x :: xs, E, ρ, G => ok G ∧ g x ρ G fun ρ2 G2 => tb { E with nx := dForGo ok g tb xs E, ct := dForGo ok g tb xs E, bk := E.nx } ρ2 G2
def dFor (wi : DTI) (g : DTG) (tb : DTS) : DTS := fun E ρ G => wi ρ G fun items ok G1 => dForGo ok g tb items E ρ G1
theorem ds_for {tg iter : Expr} {body : List Stmt} {wi : DTI} {g : DTG} {tb : DTS} {pos : Pos} (hp : PassesOwn (model X.prog X.w) X.A X.env X.xe) (hc : X.calm = true) (hi : DI X tg iter wi) (hg : DG X tg g) (hb : DSs X body tb)
    (hs : ∀ x, foldedSetIterable iter X.env x = pure x := by intro _; rfl) : DS X (.For tg iter body [] pos) (dFor wi g tb) := by
  refine (ps_for hp hc hi hg hb hs).imp fun D σ H ⟨ρ, G, E, r, h, k1, k2, k3, k4⟩ => ?_
  refine ⟨ρ, G, _, r, h, fun J items ok H1 G1 e1 r1 it h1 => ?_⟩
  refine ⟨fun i m σ2 H2 => m = items.length - i ∧ i ≤ items.length ∧ ∃ ρ2 G2, Ext G1 H1 G2 H2 ∧ DRel X.K σ2 H2 ρ2 G2 ∧ dForGo ok g tb (items.drop i) E ρ2 G2, ⟨items.length, rfl, Nat.zero_le _, ρ, G1, Ext.refl _ _, r1, h1⟩, ?_⟩
  rintro i m σ2 H2 ⟨rfl, hi, ρ2, G2, e2, r2, h2⟩
  by_cases hlt : i < items.length
  · rw [List.drop_eq_getElem_cons hlt] at h2
    unfold dForGo at h2
    obtain ⟨ho, h2⟩ := h2
    obtain ⟨a, b⟩ := it G2 H2 e2 r2.gok ho i
    obtain ⟨go, yl⟩ := a items[i] (List.getElem?_eq_getElem hlt)
    refine .inr ⟨go, fun σ3 H3 => ∃ ρ3 G3, Ext G1 H1 G3 H3 ∧ DRel X.K σ3 H3 ρ3 G3 ∧ dForGo ok g tb (items.drop (i + 1)) E ρ3 G3, fun σ3 H3 ⟨ρ3, G3, q⟩ => ⟨items.length - (i + 1), by omega, rfl, hlt, ρ3, G3, q⟩, fun x H3 hy => ?_⟩
    obtain ⟨e3, g3, rx⟩ := yl x H3 hy
    refine ⟨ρ2, G2, items[i], _, r2.ext e3 g3, rx, h2, fun σ4 ρ4 H4 G4 e4 r4 h4 => ?_⟩
    have e5 := (e2.trans e3).trans e4
    refine ⟨ρ4, G4, _, r4, h4, ?_, ?_, ?_, ?_⟩
    · exact fun σ' ρ' H' G' e' r' h' => ⟨ρ', G', e5.trans e', r', h'⟩
    · exact fun v d H' G' e' => k2 v d H' G' ((e1.trans e5).trans e')
    · exact fun σ' ρ' H' G' e' r' h' => k1 σ' ρ' H' G' ((e1.trans e5).trans e') r' h'
    · exact fun σ' ρ' H' G' e' r' h' => ⟨ρ', G', e5.trans e', r', h'⟩
  · have e : i = items.length := by omega
    subst e
    rw [List.drop_length] at h2
    unfold dForGo at h2
    exact .inl ⟨(it G2 H2 e2 r2.gok h2.1 _).2 rfl, k1 σ2 ρ2 H2 G2 (e1.trans e2) r2 h2.2⟩

def wipeD (ρ : DSt) : List Nat → DSt
  | [] => ρ
  | v :: vs => (wipeD ρ vs).set v none
theorem DRel.wipe {K : PySem.W.Frag} {σ : St} {H : Hp} {ρ : DSt} {G : GH} (r : DRel K σ H ρ G) : ∀ vs : List Nat, DRel K (wipe σ vs) H (wipeD ρ vs) G
  | [] => r
  | v :: vs => by
    have ih := DRel.wipe r vs
    unfold L2.wipe wipeD
    refine ⟨by simp [ih.len], fun i d h => ?_, ih.gok⟩
    by_cases q : v = i
    · subst q
      by_cases hl : v < (wipeD ρ vs).length
      · rw [List.getElem?_set_self hl] at h; cases h
      · rw [List.getElem?_eq_none (by simpa using hl)] at h; cases h
    · rw [List.getElem?_set_ne q] at h
      obtain ⟨w, h1, h2⟩ := ih.at_ i d h
      exact ⟨w, by rw [List.getElem?_set_ne q]; exact h1, h2⟩
abbrev DTs (X : Cx) (ifs : List Expr) (t : DTT) : Prop := PTs X ifs (upT X.K t)
@[simp] def dYes : DTT := fun _ G Q => Q true G
theorem dts_nil : DTs X [] dYes := ⟨fun pins s σ H Q I ⟨ρ, G, q, r, h, k⟩ => (pts_nil (X := X)).run pins s σ H Q I (k true H G (Ext.refl G H) r h)⟩
end
end Dl

namespace Dl
open PySem L2

inductive CT where
  | one (i : Nat)
  | tup (is : List Nat)
def CT.slots : CT → List Nat
  | .one i => [i]
  | .tup is => is
def setAll : DSt → List Nat → List D → Option DSt
  | ρ, [], [] => some ρ
  | ρ, i :: is, d :: ds => setAll (ρ.set i (some d)) is ds
  | _, _, _ => none
def bindC : CT → D → DSt → Option DSt
  | .one i, d, ρ => some (ρ.set i (some d))
  | .tup is, .tup ds, ρ => setAll ρ is ds
  | .tup _, _, _ => none
def gNames : List Nat → TGs
  | [] => gNil
  | i :: is => gCons (gName i) (gNames is)
def CT.gV (K : PySem.W.Frag) : CT → TG
  | .one i => gName i
  | .tup is => gTup K is.length (gNames is)
theorem wipe_set {σ : St} {i : Nat} {x : Option V} : ∀ {vs : List Nat}, i ∈ vs → wipe (σ.set i x) vs = wipe σ vs
  | v :: vs, h => by
    unfold wipe
    by_cases q : i ∈ vs
    · rw [wipe_set q]
    · have e : v = i := by
        rcases List.mem_cons.mp h with e | e
        · exact e.symm
        · exact absurd e q
      subst e
      have go : ∀ ws : List Nat, v ∉ ws → wipe (σ.set v x) ws = (wipe σ ws).set v x := by
        intro ws
        induction ws with
        | nil => intro _; rfl
        | cons w ws ih =>
          intro hw
          simp only [List.mem_cons, not_or] at hw
          unfold wipe
          rw [ih hw.2, List.set_comm _ _ hw.1]
      rw [go vs q, List.set_set]
theorem wipe_wipe (σ : St) (vs : List Nat) : wipe (wipe σ vs) vs = wipe σ vs := by
  have go : ∀ ws : List Nat, (∀ i ∈ ws, i ∈ vs) → wipe (wipe σ ws) vs = wipe σ vs := by
    intro ws
    induction ws with
    | nil => intro _; rfl
    | cons w ws ih =>
      intro h
      show wipe ((wipe σ ws).set w none) vs = wipe σ vs
      rw [wipe_set (h w List.mem_cons_self)]
      exact ih fun i hi => h i (List.mem_cons_of_mem _ hi)
  exact go vs fun _ h => h
theorem setAll_ok {K : PySem.W.Frag} {H : Hp} {G : GH} {vs : List Nat} : ∀ {is : List Nat} {ds : List D} {xs : List V} {ρ ρ' : DSt} {σ : St} {Q : St → Hp → Prop}, (∀ i ∈ is, i ∈ vs) → DRel K σ H ρ G → RepL K G H ds xs → setAll ρ is ds = some ρ' →
    (∀ σ', DRel K σ' H ρ' G → wipe σ' vs = wipe σ vs → Q σ' H) → xs.length = is.length ∧ gNames is xs σ H Q
  | [], [], _, ρ, ρ', σ, Q, hi, r, rl, e, k => by
    unfold RepL at rl
    subst rl
    simp [setAll] at e
    subst e
    exact ⟨rfl, rfl, k σ r rfl⟩
  | i :: is, d :: ds, _, ρ, ρ', σ, Q, hi, r, rl, e, k => by
    unfold RepL at rl
    obtain ⟨x, xs, rfl, hx, hxs⟩ := rl
    have e' : setAll (ρ.set i (some d)) is ds = some ρ' := e
    obtain ⟨l, g⟩ := setAll_ok (vs := vs) (Q := Q) (fun j hj => hi j (List.mem_cons_of_mem _ hj)) (r.set i hx) hxs e' fun σ' r' w => k σ' r' (by rw [w, wipe_set (hi i List.mem_cons_self)])
    exact ⟨by simp [l], x, xs, rfl, g⟩
  | [], _ :: _, _, _, _, _, _, _, _, _, e, _ => by simp [setAll] at e
  | _ :: _, [], _, _, _, _, _, _, _, _, e, _ => by simp [setAll] at e
theorem bindC_ok {K : PySem.W.Frag} {H : Hp} {G : GH} {vs : List Nat} {ct : CT} {d : D} {v : V} {ρ ρ' : DSt} {σ : St} {Q : St → Hp → Prop} (hi : ∀ i ∈ ct.slots, i ∈ vs) (r : DRel K σ H ρ G) (rv : RepV K G H d v) (e : bindC ct d ρ = some ρ')
    (k : ∀ σ', DRel K σ' H ρ' G → wipe σ' vs = wipe σ vs → Q σ' H) : ct.gV K v σ H Q := by
  cases ct with
  | one i =>
    simp only [bindC, Option.some.injEq] at e
    subst e
    exact k _ (r.set i rv) (wipe_set (hi i (by simp [CT.slots])))
  | tup is =>
    cases d with
    | tup ds =>
      unfold RepV at rv
      obtain ⟨a, xs, rfl, ta, rl⟩ := rv
      obtain ⟨l, g⟩ := setAll_ok (Q := Q) hi r rl e k
      exact ⟨a, xs, rfl, ta.sq, l, g⟩
    | _ => simp [bindC] at e
def dLcGo (ok : GH → Prop) (ct : CT) (tt : DTT) (te : DTE) (ρ : DSt) (p : Addr) : List D → GH → DK → Prop
  | [], G, Q => ok G ∧ Q (.ref p) G
  | x :: xs, G, Q => ok G ∧ match bindC ct x ρ with
    | none => False
    | some ρ2 => tt ρ2 G fun b G3 => if b = true then te ρ2 G3 fun y G4 => (match G4 p with
        | some (.lst acc) => acc.length < sizeLine ∧ dLcGo ok ct tt te ρ p xs (updG G4 p (.lst (acc ++ [y]))) Q
        | _ => False) else dLcGo ok ct tt te ρ p xs G3 Q
def dLc (wi : DTI) (ct : CT) (tt : DTT) (te : DTE) (vs : List Nat) : DTE := fun ρ G Q => wi ρ G fun items ok G1 => ∀ p, G1 p = none → dLcGo ok ct tt te (wipeD ρ vs) p items (updG G1 p (.lst [])) Q
theorem up_lc {K : PySem.W.Frag} {wi : DTI} {ct : CT} {tt : DTT} {te : DTE} {vs : List Nat} (hi : ∀ i ∈ ct.slots, i ∈ vs) {σ : St} {H : Hp} {Q : VK} (h : up K (dLc wi ct tt te vs) σ H Q) :
    tLc (upI K wi) (ct.gV K) (upT K tt) (up K te) vs σ H Q := by
  obtain ⟨ρ, G, q, r, h, k⟩ := h
  refine ⟨ρ, G, _, r, h, fun J items ok H1 G1 e1 r1 it h1 => fun p hp => ?_⟩
  obtain ⟨e2, r2, _⟩ := r1.newLst hp (repL_nil (K := K) (G := G1) (H := H1))
  have h2 := h1 p (r1.gok.fresh hp)
  refine ⟨fun i m H2 => m = items.length - i ∧ i ≤ items.length ∧ ∃ G2, Ext (updG G1 p (.lst [])) (upd H1 p (.lst [])) G2 H2 ∧ GOk K G2 H2 ∧ dLcGo ok ct tt te (wipeD ρ vs) p (items.drop i) G2 q, ⟨items.length, rfl, Nat.zero_le _, _, Ext.refl _ _, r2.gok, h2⟩, ?_⟩
  rintro i m H2 ⟨rfl, hi2, G2, e3, g3, h3⟩
  have r3 : DRel K σ H2 ρ G2 := r2.ext e3 g3
  have e13 : Ext G1 H1 G2 H2 := e2.trans e3
  by_cases hlt : i < items.length
  · rw [List.drop_eq_getElem_cons hlt] at h3
    unfold dLcGo at h3
    obtain ⟨ho, h3⟩ := h3
    obtain ⟨a, b⟩ := it G2 H2 e13 g3 ho i
    obtain ⟨go, yl⟩ := a items[i] (List.getElem?_eq_getElem hlt)
    refine .inr ⟨go, fun H3 => ∃ G3, Ext (updG G1 p (.lst [])) (upd H1 p (.lst [])) G3 H3 ∧ GOk K G3 H3 ∧ dLcGo ok ct tt te (wipeD ρ vs) p (items.drop (i + 1)) G3 q, fun H3 ⟨G3, q3⟩ => ⟨items.length - (i + 1), by omega, rfl, hlt, G3, q3⟩, fun x H3 hy => ?_⟩
    obtain ⟨e4, g4, rx⟩ := yl x H3 hy
    have r4 : DRel K (wipe σ vs) H3 (wipeD ρ vs) G2 := (r3.ext e4 g4).wipe vs
    cases eb : bindC ct items[i] (wipeD ρ vs) with
    | none => rw [eb] at h3; exact h3.elim
    | some ρ2 =>
      rw [eb] at h3
      refine bindC_ok hi r4 rx eb fun σ5 r5 w5 => ⟨by rw [w5, wipe_wipe], ρ2, G2, _, r5, h3, fun b H6 G6 e6 r6 h6 => ?_⟩
      have e36 := (e3.trans e4).trans e6
      cases b with
      | false => exact ⟨G6, e36, r6.gok, h6⟩
      | true =>
        refine ⟨ρ2, G6, _, r6, h6, fun y dy H7 G7 e7 r7 v7 h7 => ?_⟩
        cases hg : G7 p with
        | none => rw [hg] at h7; exact h7.elim
        | some o =>
          rw [hg] at h7
          cases o with
          | lst acc =>
            obtain ⟨xs, hx, rx⟩ := r7.gok p _ hg
            have e8 : Ext G7 H7 (updG G7 p (.lst (acc ++ [dy]))) (upd H7 p (.lst (xs ++ [y]))) := Ext.write hg
            refine ⟨xs, hx, by rw [rx.length]; exact h7.1, _, (e36.trans e7).trans e8, r7.gok.put e8 ⟨_, upd_same, (rx.append (repL_one v7)).ext e8⟩, h7.2⟩
          | dct _ => exact h7.elim
          | raw _ => exact h7.elim
  · have e : i = items.length := by omega
    subst e
    rw [List.drop_length] at h3
    unfold dLcGo at h3
    refine .inl ⟨(it G2 H2 e13 g3 h3.1 _).2 rfl, k _ (.ref p) H2 G2 (e1.trans e13) (r3) (by unfold RepV; rfl) h3.2⟩
section
variable {X : Cx}
theorem de_lc {elt tg iter : Expr} {ifs : List Expr} {scope : Scope} {own : List (Str × Nat)} {pos : Pos} {wi : DTI} {ct : CT} {tt : DTT} {te : DTE} (hc : X.calm = true) (hN : X.N.Nodup) (hi : DI X tg iter wi) (ok : BlkOk X.N X.env.scope scope own)
    (hv : ∀ i ∈ ct.slots, i ∈ own.map (·.2))
    (hg : ∀ (s : Shared) (H : Hp) (C : Addr) (cl : List (Str × Addr)) (fp : List Addr), PG (X.blk s H scope (compEnvC scope cl C X.env) fp) tg (ct.gV X.K)) (ht : ∀ (s : Shared) (H : Hp) (C : Addr) (cl : List (Str × Addr)) (fp : List Addr), DTs (X.blk s H scope (compEnvC scope cl C X.env) fp) ifs tt)
    (he : ∀ (s : Shared) (H : Hp) (C : Addr) (cl : List (Str × Addr)) (fp : List Addr), DE (X.blk s H scope (compEnvC scope cl C X.env) fp) elt te) (hs : ∀ x, foldedSetIterable iter X.env x = pure x := by intro _; rfl) :
    DE X (.ListComp elt [⟨tg, iter, ifs, 0⟩] scope pos) (dLc wi ct tt te (own.map (·.2))) :=
  (pe_lc hc hN hi ok hg ht he hs).imp fun _ _ _ h => up_lc hv h
theorem ds_setLcF {i : Nat} {y : Str} {py : Pos} {elt tg iter : Expr} {ifs : List Expr} {scope : Scope} {own : List (Str × Nat)} {pos spos : Pos} {wi : DTI} {ct : CT} {tt : DTT} {te : DTE} (hc : X.calm = true) (hN : X.N.Nodup) (hy : X.N[i]? = some y) (hyl : X.env.scope.names.lookup y = some .local)
    (hsw : swapsWith (.ListComp elt [⟨tg, iter, ifs, 0⟩] scope pos) (some (.Name y py)) spos.line X.env = pure true) (hi : DI X tg iter wi) (ok : BlkOk X.N X.env.scope scope own)
    (hv : ∀ i ∈ ct.slots, i ∈ own.map (·.2))
    (hg : ∀ (s : Shared) (H : Hp) (C : Addr) (cl : List (Str × Addr)) (fp : List Addr), PG (X.blk s H scope (compEnvC scope cl C X.env) fp) tg (ct.gV X.K)) (ht : ∀ (s : Shared) (H : Hp) (C : Addr) (cl : List (Str × Addr)) (fp : List Addr), DTs (X.blk s H scope (compEnvC scope cl C X.env) fp) ifs tt)
    (he : ∀ (s : Shared) (H : Hp) (C : Addr) (cl : List (Str × Addr)) (fp : List Addr), DE (X.blk s H scope (compEnvC scope cl C X.env) fp) elt te) (hs : ∀ x, foldedSetIterable iter X.env x = pure x := by intro _; rfl) :
    DS X (.Assign [.Name y py] (.ListComp elt [⟨tg, iter, ifs, 0⟩] scope pos) spos) (dAsg (dFrz (dLc wi ct tt te (own.map (·.2)))) (gNm i)) := by
  refine (ps_setLc (tt := upT X.K tt) (te := up X.K te) hc hN hy hyl hsw hi ok hg ht he hs).imp fun D σ H h => ?_
  obtain ⟨ρ, G, E, r, h, k1, k2, k3, k4⟩ := h
  refine up_lc (K := X.K) (Q := fun x H1 => gName i x σ H1 D.nx) hv ⟨ρ, G, _, r, h, fun v d H1 G1 e1 r1 v1 h1 => ?_⟩
  cases d with
  | ref p =>
    dsimp only at h1
    cases q : G1 p with
    | none => rw [q] at h1; exact k1 _ _ H1 G1 e1 (r1.set i v1) h1
    | some o =>
      rw [q] at h1
      cases o with
      | lst ds =>
        dsimp only at h1
        obtain ⟨xs, hx, rx⟩ := r1.gok p _ q
        have e2 : Ext G1 H1 (dropG G1 p) H1 := Ext.drop
        refine k1 _ _ H1 (dropG G1 p) (e1.trans e2) ((r1.ext e2 r1.gok.drop).set i ?_) h1
        unfold RepV at v1 ⊢
        exact ⟨p, xs, v1, ⟨dropG_same, hx⟩, rx.ext e2⟩
      | dct kvs => exact k1 _ _ H1 G1 e1 (r1.set i v1) h1
      | raw o => exact k1 _ _ H1 G1 e1 (r1.set i v1) h1
  | _ => exact k1 _ _ H1 G1 e1 (r1.set i v1) h1
end

structure DX where
  cls : Addr
  fs : List (Str × D)
abbrev DXK := DX → GH → Prop
abbrev DSp := List D → GH → DK → DXK → Prop
def ExcRep (K : PySem.W.Frag) (G : GH) (H : Hp) (x : DX) (c : Value) (od : Option Addr) : Prop := c = .ref x.cls ∧ ∃ d ws, od = some d ∧ H d = some (.xd ws) ∧ ws.map (·.1) = x.fs.map (·.1) ∧ RepL K G H (x.fs.map (·.2)) (ws.map (·.2))
def toSp (K : PySem.W.Frag) (sp : DSp) : Sp := fun vs H Qv Ev => ∃ ds G Q E, RepL K G H ds vs ∧ GOk K G H ∧ sp ds G Q E ∧ (∀ v d H' G', Ext G H G' H' → GOk K G' H' → RepV K G' H' d v → Q d G' → Qv v H') ∧
  (∀ x c od H' G', Ext G H G' H' → GOk K G' H' → ExcRep K G' H' x c od → E x G' → Ev c od H')
abbrev noX : DXK := fun _ _ => False
structure GFn (P : Program) (w : World) (K : PySem.W.Frag) (mg : Str → Option Value) (base : Heap) (CX : CXT) (k : Nat) (f : Addr) (fd : FuncData) (ps : List Str) (sp : Sp) : Prop where
  arity : ∀ xs H Q E, sp xs H Q E → xs.length = ps.length
  go : ∀ (A : Around) (out : List Env) (st : Shared) (H : Hp) (ar : Args) (us : List Value) (xs : List V) (Q : VK) (E : XK), Room k A → A.guards = some [] → Env0 P w K mg base A out st H →
    BindsTo st fd ar (ps.zip us) → Vals xs us → sp xs H Q E → codeAny (model P w) A (.call (.ref f) ar) (CR CX out P w H st Q E) st
theorem GFn.up {P : Program} {w : World} {K : PySem.W.Frag} {mg : Str → Option Value} {base : Heap} {CX : CXT} {j k : Nat} {f : Addr} {fd : FuncData} {ps : List Str} {sp : Sp} (F : GFn P w K mg base CX j f fd ps sp) (h : j ≤ k) : GFn P w K mg base CX k f fd ps sp :=
  ⟨F.arity, fun A out st H ar us xs Q E hr => F.go A out st H ar us xs Q E (hr.mono h)⟩
theorem gfn_of {CX : CXT} {P : Program} {w : World} {K : PySem.W.Frag} {mg : Str → Option Value} {base : Heap} {k : Nat} {f : Addr} {fd : FuncData} {x qual : Str} {params : Arguments} {body : List Stmt} {scope : Scope} {dvs : List V} {kws : List (Str × V)}
    {N ps : List Str} {sp : Sp} (F : FunD K x qual params body scope dvs kws f fd) (S : FnScope N ps scope) (len : ∀ xs H Q E, sp xs H Q E → xs.length = ps.length)
    (hbody : ∀ (cdv : Value) (A : Around) (out : List Env) (st : Shared) (H : Hp) (xs : List V) (Q : VK) (E : XK), Room k (A.deeper (PyProof.Rows.envOfC qual scope st.heap.objs.size f cdv)) → (A.deeper (PyProof.Rows.envOfC qual scope st.heap.objs.size f cdv)).guards = some [] →
      sp xs H Q E → ∃ t, PSs (cxOf CX P w K mg base N qual scope f cdv A out st H E) body t ∧ t { nx := fun _ H' => Q .non H', rt := Q } (L2.start N xs) H) : GFn P w K mg base CX (k + 1) f fd ps sp := by
  obtain ⟨oc, od, dV, kV, doc, pm, an, cdv, ct, osl, hfd, lk, hcd, _, _⟩ := F.ex
  subst hfd
  constructor
  · exact len
  intro A out st H ar us xs Q E hr hgd e0 hb rl hsp
  have kin : K.In st.heap := PySem.W.Frag.In.keeps e0.mod.kin (fun b o e => (e0.bs b o e).1)
  have nl : st.heap.NoLimit := Heap.NoLimit.keeps e0.mod.nolimit (fun b o e => (e0.bs b o e).1)
  have kinds : ∀ y ∈ ps.zip us, scope.names.lookup y.1 = some .local ∨ (scope.names.lookup y.1 = some .cell ∧ ((cellsFrom (st.heap.objs.size + 1) scope.names []).lookup y.1).isSome = true) := by
    rintro ⟨n, v⟩ hy
    cases S.par n (List.of_mem_zip hy).1 with
    | inl q => exact .inl q
    | inr q => exact .inr ⟨q, PySem.W.cellsFrom_some _ _ _ (.inl q)⟩
  refine PySem.codeAny_call_function hr.depth (kin _ _ lk) rfl S.co S.gen rfl (PySem.W.codeRec_of kin hcd) ?_
  refine hb _ _ _ _ ?_
  refine wpAny_newFunctionEnv_cells S.kind kinds ?_
  intro env he s1 ic
  subst he
  refine ⟨nl.keeps ic.toInCall.keep, PySem.codeAny_func ?_⟩
  have gd : (A.deeper (PyProof.Rows.envOfC qual scope st.heap.objs.size f cdv)).guards = some [] := hgd
  obtain ⟨t, ht, hq⟩ := hbody cdv A out st H xs Q E (hr.deeper _) gd hsp
  have inv := inv_start (CX := CX) (E := E) S hr.hd e0 (len _ _ _ _ hsp) rl ic
  refine wpAny_mono (ht.run [] s1 _ H _ inv hq) ?_ (fun _ _ z => z)
  intro fl s2 hs
  cases fl with
  | ret u => obtain ⟨v, σ2, H2, J, rv, q⟩ := hs; exact ⟨v, H2, J.os, J.bare, J.base, J.hok, rv, q⟩
  | next => obtain ⟨σ2, H2, J, q⟩ := hs; exact ⟨V.non, H2, J.os, J.bare, J.base, J.hok, rfl, q⟩
  | brk => obtain ⟨_, _, _, q⟩ := hs; exact q.elim
  | cont => obtain ⟨_, _, _, q⟩ := hs; exact q.elim
section
variable {X : Cx} {CX : CXT} {k : Nat} {f : Addr} {fd : FuncData} {ps : List Str} {x : Str} {p pos : Pos} {e : Expr} {es : List Expr} {E : XK}
theorem g_run {sp : Sp} {pins : List (Addr × Obj)} {σ : St} {H : Hp} {s : Shared} {Q : VK} {us : List Value} {xs : List V} (F : GFn X.prog X.w X.K X.mg X.base CX k f fd ps sp) (hr : Room k X.A) (hgd : X.A.guards = some []) (hb : Binds X.K fd ps []) (hx : Passes CX X E)
    (I : Inv X pins σ H s) (r : Vals xs us) (h : sp xs H Q E) : wpAny (model X.prog X.w) X.A (PySem.call (.ref f) us) (EP X pins σ Q) X.xe s := by
  have al : (us ++ []).length = ps.length := by rw [List.append_nil, ← r.length]; exact F.arity _ _ _ _ h
  have bd := hb s us I.kIn al
  rw [List.append_nil] at bd
  refine wpAny_call (codeAny_mono (F.go X.A X.stack s H ⟨us, []⟩ us xs Q E hr hgd I.env0 bd r h) ?_)
  intro res s2 hq
  match res, hq with
  | .error er, hq => exact hx pins σ H s er s2 I hq
  | .ok (.ret u), hq => exact I.after hq
theorem ge_call {sp : Sp} {t : TA} (F : GFn X.prog X.w X.K X.mg X.base CX k f fd ps sp) (hr : Room k X.A) (hgd : X.A.guards = some []) (hg : Gl X x) (hm : X.mg x = some (.ref f)) (hk : PySem.W.keepIn X.K (.ref f) = true) (hb : Binds X.K fd ps []) (hx : Passes CX X E)
    (ha : PA X (e :: es) t) (hdb : (x == ("__debug__" : Str)) = false := by decide) (he : starEach (e :: es) X.env = (false, eval e X.env) :: starEach es X.env := by rfl) (hpl : (backTo pos (starEach es X.env)).any (·.1) = false := by rfl) :
    PE X (.Call (.Name x p) (e :: es) [] pos) (fun σ H Q => t σ H fun vs H1 => sp vs H1 Q E) := by
  constructor
  intro pins s σ H Q I h
  refine wpAny_Call_Name_kw (ld_glob I hg hm ?_ hdb)
  refine PySem.W.callWith_K (h₀ := X.base) I.ok.mod.kin hk ?_ he hpl
  refine thn (ha.run pos pins s σ H _ I h) ?_
  rintro us s1 ⟨xs, H1, I1, r, q⟩
  exact ⟨I1.kIn, g_run F hr hgd hb hx I1 r q⟩
theorem ge_call0 {sp : Sp} (F : GFn X.prog X.w X.K X.mg X.base CX k f fd ps sp) (hr : Room k X.A) (hgd : X.A.guards = some []) (hg : Gl X x) (hm : X.mg x = some (.ref f)) (hk : PySem.W.keepIn X.K (.ref f) = true) (hb : Binds X.K fd ps []) (hx : Passes CX X E)
    (hdb : (x == ("__debug__" : Str)) = false := by decide) : PE X (.Call (.Name x p) [] [] pos) (fun σ H Q => sp [] H Q E) := by
  constructor
  intro pins s σ H Q I h
  refine wpAny_Call_Name_kw (ld_glob I hg hm ?_ hdb)
  exact PySem.W.callWith_K0 I.kIn hk (g_run (us := []) F hr hgd hb hx I .nil h)
end
@[simp] def dCall (sp : DSp) (ta : DTA) : DTE := fun ρ G Q => ta ρ G fun ds G1 => sp ds G1 Q noX
abbrev DFn (P : Program) (w : World) (K : PySem.W.Frag) (mg : Str → Option Value) (base : Heap) (k : Nat) (f : Addr) (fd : FuncData) (ps : List Str) (sp : DSp) : Prop := GFn P w K mg base CX0 k f fd ps (toSp K sp)
section
variable {X : Cx} {k : Nat} {f : Addr} {fd : FuncData} {ps : List Str} {sp : DSp} {x : Str} {p pos : Pos} {e : Expr} {es : List Expr} {ta : DTA}
theorem sp_at {K : PySem.W.Frag} {σ : St} {H : Hp} {ρ : DSt} {G : GH} {Q : VK} {q : DK} {vs : List V} {ds : List D} (r : DRel K σ H ρ G) (v : RepL K G H ds vs) (h : sp ds G q noX) (k : ∀ v d H' G', Ext G H G' H' → DRel K σ H' ρ G' → RepV K G' H' d v → q d G' → Q v H') : toSp K sp vs H Q E0 :=
  ⟨ds, G, q, noX, v, r.gok, h, fun v d H' G' e2 g2 v2 h2 => k v d H' G' e2 (r.ext e2 g2) v2 h2, fun _ _ _ _ _ _ _ _ z => z.elim⟩
theorem de_call (F : DFn X.prog X.w X.K X.mg X.base k f fd ps sp) (hr : Room k X.A) (hgd : X.A.guards = some []) (hg : Gl X x) (hm : X.mg x = some (.ref f)) (hk : PySem.W.keepIn X.K (.ref f) = true) (hb : Binds X.K fd ps [])
    (ha : DA X (e :: es) ta) (hdb : (x == ("__debug__" : Str)) = false := by decide) (he : starEach (e :: es) X.env = (false, eval e X.env) :: starEach es X.env := by rfl) (hpl : (backTo pos (starEach es X.env)).any (·.1) = false := by rfl) :
    DE X (.Call (.Name x p) (e :: es) [] pos) (dCall sp ta) := (ge_call F hr hgd hg hm hk hb pass0 ha hdb he hpl).imp fun σ H Q ⟨ρ, G, q, r, h, k⟩ => by
  refine ⟨ρ, G, _, r, h, fun vs ds H1 G1 e1 r1 v1 h1 => ?_⟩
  exact sp_at r1 v1 h1 fun v d H' G' e2 r2 v2 h2 => k v d H' G' (e1.trans e2) r2 v2 h2
theorem de_call0 (F : DFn X.prog X.w X.K X.mg X.base k f fd ps sp) (hr : Room k X.A) (hgd : X.A.guards = some []) (hg : Gl X x) (hm : X.mg x = some (.ref f)) (hk : PySem.W.keepIn X.K (.ref f) = true) (hb : Binds X.K fd ps [])
    (hdb : (x == ("__debug__" : Str)) = false := by decide) : DE X (.Call (.Name x p) [] [] pos) (dCall sp dNil) := (ge_call0 F hr hgd hg hm hk hb pass0 hdb).imp fun σ H Q ⟨ρ, G, q, r, h, k⟩ => sp_at r repL_nil h k
end
def startD (n : Nat) (ds : List D) : DSt := ds.map some ++ List.replicate (n - ds.length) none
theorem start_rel {K : PySem.W.Frag} {H : Hp} {G : GH} {N : List Str} {ds : List D} {vs : List V} (rl : RepL K G H ds vs) (g : GOk K G H) : DRel K (L2.start N vs) H (startD N.length ds) G := by
  have hl := rl.length
  refine ⟨by simp [L2.start, startD, hl], fun i d h => ?_, g⟩
  unfold startD at h
  by_cases hi : i < ds.length
  · rw [List.getElem?_append_left (by simpa using hi), List.getElem?_map] at h
    cases q : ds[i]? with
    | none => rw [q] at h; simp at h
    | some d' =>
      rw [q] at h
      simp at h
      subst h
      obtain ⟨v, e1, e2⟩ := rl.get q
      refine ⟨v, ?_, e2⟩
      unfold L2.start
      rw [List.getElem?_append_left (by simp [hl]; exact hi), List.getElem?_map, e1]
      rfl
  · rw [List.getElem?_append_right (by simpa using hi), List.getElem?_replicate] at h
    split at h <;> cases h
theorem dfn_of {P : Program} {w : World} {K : PySem.W.Frag} {mg : Str → Option Value} {base : Heap} {x qual : Str} {params : Arguments} {body : List Stmt} {scope : Scope} {dvs : List V} {kws : List (Str × V)} {f : Addr} {fd : FuncData}
    {N ps : List Str} {k : Nat} {sp : DSp} {t : DTS} (F : FunD K x qual params body scope dvs kws f fd) (S : FnScope N ps scope) (len : ∀ ds G Q E, sp ds G Q E → ds.length = ps.length)
    (hbody : ∀ (cdv : Value) (A : Around) (out : List Env) (st : Shared) (H : Hp) (E : XK), Room k (A.deeper (PyProof.Rows.envOfC qual scope st.heap.objs.size f cdv)) → (A.deeper (PyProof.Rows.envOfC qual scope st.heap.objs.size f cdv)).guards = some [] →
      DSs (cxOf CX0 P w K mg base N qual scope f cdv A out st H E).nox body t)
    (ok : ∀ ds G Q E, sp ds G Q E → t { nx := fun _ G' => Q .non G', rt := Q } (startD N.length ds) G) : DFn P w K mg base (k + 1) f fd ps sp := by
  refine gfn_of F S (fun vs H Q E h => ?_) fun cdv A outer s H vs Q E hr hg h => ⟨_, PSs.nox (hbody cdv A outer s H E hr hg), ?_⟩
  · obtain ⟨ds, G, q, e, rl, _, h, _⟩ := h
    rw [rl.length]
    exact len _ _ _ _ h
  · obtain ⟨ds, G, q, e, rl, g, h, kq, ke⟩ := h
    refine ⟨startD N.length ds, G, _, start_rel rl g, ok ds G q e h, ?_, ?_, ?_, ?_⟩
    · exact fun σ' ρ' H' G' e' r' h' => kq .non .non H' G' e' r'.gok (by unfold RepV; rfl) h'
    · exact fun v d H' G' e' g' v' h' => kq v d H' G' e' g' v' h'
    · exact fun _ _ _ _ _ _ z => z.elim
    · exact fun _ _ _ _ _ _ z => z.elim
end Dl

namespace Dl
open PySem L2

@[simp] def lsOf (G : GH) : D → Option (List D)
  | .lst ds => some ds
  | .ref a => (match G a with
    | some (.lst ds) => some ds
    | _ => none)
  | _ => none
@[simp] def sqOf (G : GH) : D → Option (List D)
  | .tup ds => some ds
  | .lst ds => some ds
  | .ref a => (match G a with
    | some (.lst ds) => some ds
    | _ => none)
  | _ => none
section
variable {K : PySem.W.Frag} {G : GH} {H : Hp} {d : D} {v : V} {ds : List D}
theorem ls_at (g : GOk K G H) (r : RepV K G H d v) (h : lsOf G d = some ds) : ∃ a xs, v = .ref a ∧ H a = some (.lst xs) ∧ RepL K G H ds xs := by
  cases d with
  | lst es =>
    simp only [lsOf, Option.some.injEq] at h
    subst h
    unfold RepV at r
    obtain ⟨a, xs, rfl, ta, rl⟩ := r
    exact ⟨a, xs, rfl, ta.2, rl⟩
  | ref a =>
    simp only [lsOf] at h
    unfold RepV at r
    subst r
    cases q : G a with
    | none => rw [q] at h; cases h
    | some o =>
      rw [q] at h
      cases o with
      | lst es =>
        simp only [Option.some.injEq] at h
        subst h
        obtain ⟨xs, h1, h2⟩ := g a _ q
        exact ⟨a, xs, rfl, h1, h2⟩
      | dct _ => cases h
      | raw _ => cases h
  | _ => simp [lsOf] at h
theorem tp_at (r : RepV K G H (.tup ds) v) : ∃ a xs, v = .ref a ∧ SqT K H a xs ∧ RepL K G H ds xs := by
  unfold RepV at r
  obtain ⟨a, xs, rfl, ta, rl⟩ := r
  exact ⟨a, xs, rfl, ta.sq, rl⟩
theorem sq_at (g : GOk K G H) (r : RepV K G H d v) (h : sqOf G d = some ds) : ∃ a xs, v = .ref a ∧ (SqL K H a xs ∨ SqT K H a xs) ∧ RepL K G H ds xs := by
  cases d with
  | tup es =>
    simp only [sqOf, Option.some.injEq] at h
    subst h
    obtain ⟨a, xs, e, t, rl⟩ := tp_at r
    exact ⟨a, xs, e, .inr t, rl⟩
  | lst es =>
    obtain ⟨a, xs, e, t, rl⟩ := ls_at g r (ds := ds) h
    exact ⟨a, xs, e, .inl (SqL.of t), rl⟩
  | ref a =>
    obtain ⟨a, xs, e, t, rl⟩ := ls_at g r (ds := ds) h
    exact ⟨a, xs, e, .inl (SqL.of t), rl⟩
  | _ => simp [sqOf] at h
theorem rv_int {i : Int} (r : RepV K G H (.int i) v) : v = .int i := by unfold RepV at r; exact r
theorem rv_bl {i : Bool} (r : RepV K G H (.bl i) v) : v = .bl i := by unfold RepV at r; exact r
theorem rv_str {i : Str} (r : RepV K G H (.str i) v) : v = .str i := by unfold RepV at r; exact r
theorem rv_non (r : RepV K G H .non v) : v = .non := by unfold RepV at r; exact r
theorem rv_ref {a : Addr} (r : RepV K G H (.ref a) v) : v = .ref a := by unfold RepV at r; exact r
theorem int_rv {i : Int} : RepV K G H (.int i) (.int i) := by unfold RepV; rfl
theorem bl_rv {i : Bool} : RepV K G H (.bl i) (.bl i) := by unfold RepV; rfl
theorem str_rv {i : Str} : RepV K G H (.str i) (.str i) := by unfold RepV; rfl
theorem non_rv : RepV K G H .non .non := by unfold RepV; rfl
theorem ref_rv {a : Addr} : RepV K G H (.ref a) (.ref a) := by unfold RepV; rfl
theorem new_tup {p : Addr} {vs : List V} (g : GOk K G H) (hp : H p = none) (hv : RepL K G H ds vs) : Ext G H G (upd H p (.tup vs)) ∧ GOk K G (upd H p (.tup vs)) ∧ RepV K G (upd H p (.tup vs)) (.tup ds) (.ref p) := by
  have e : Ext G H G (upd H p (.tup vs)) := Ext.new hp
  refine ⟨e, g.new hp, ?_⟩
  unfold RepV
  exact ⟨p, vs, rfl, .inl ⟨g.fresh hp, .inl upd_same⟩, hv.ext e⟩
theorem new_lst {p : Addr} {vs : List V} (g : GOk K G H) (hp : H p = none) (hv : RepL K G H ds vs) : Ext G H (updG G p (.lst ds)) (upd H p (.lst vs)) ∧ GOk K (updG G p (.lst ds)) (upd H p (.lst vs)) ∧ RepV K (updG G p (.lst ds)) (upd H p (.lst vs)) (.ref p) (.ref p) := by
  have e : Ext G H (updG G p (.lst ds)) (upd H p (.lst vs)) := Ext.newG hp
  exact ⟨e, g.put e ⟨vs, upd_same, hv.ext e⟩, ref_rv⟩
theorem put_lst {p : Addr} {vs : List V} {o : DO} (g : GOk K G H) (hp : G p = some o) (hv : RepL K G H ds vs) : Ext G H (updG G p (.lst ds)) (upd H p (.lst vs)) ∧ GOk K (updG G p (.lst ds)) (upd H p (.lst vs)) := by
  have e : Ext G H (updG G p (.lst ds)) (upd H p (.lst vs)) := Ext.write hp
  exact ⟨e, g.put e ⟨vs, upd_same, hv.ext e⟩⟩
end

@[simp] def rCatL (G : GH) (Q : DK) (a b : List D) : Prop := a.length + b.length ≤ sizeLine ∧ ∀ p, G p = none → Q (.ref p) (updG G p (.lst (a ++ b)))
@[simp] def rAdd : DR2 := fun x y G Q => match x with
  | .int i => (match y with
    | .int j => Q (.int (i + j)) G
    | _ => False)
  | .str a => (match y with
    | .str b => a.length + b.length ≤ sizeLine ∧ Q (.str (a ++ b)) G
    | _ => False)
  | .tup a => (match y with
    | .tup b => a.length + b.length ≤ sizeLine ∧ Q (.tup (a ++ b)) G
    | _ => False)
  | .lst a => (match lsOf G y with
    | some b => rCatL G Q a b
    | none => False)
  | .ref p => (match lsOf G (.ref p) with
    | some a => (match lsOf G y with
      | some b => rCatL G Q a b
      | none => False)
    | none => False)
  | _ => False
section
variable {X : Cx}
theorem cat_lists {pins : List (Addr × Obj)} {s : Shared} {σ : St} {H : Hp} {x y : V} {v u : Value} {Qv : VK} {G : GH} {dx dy : D} {q : DK} {a b : List D} (I : Inv X pins σ H s) (rx : RelV x v) (ry : RelV y u) (g : GOk X.K G H) (r1 : RepV X.K G H dx x) (r2 : RepV X.K G H dy y)
    (ha : lsOf G dx = some a) (hb : lsOf G dy = some b) (h : rCatL G q a b) (k : ∀ v d H' G', Ext G H G' H' → GOk X.K G' H' → RepV X.K G' H' d v → q d G' → Qv v H') : wpAny (model X.prog X.w) X.A (binaryOp .Add v u) (EP X pins σ Qv) X.xe s := by
  obtain ⟨l, xs, rfl, h1, l1⟩ := ls_at g r1 ha
  obtain ⟨m, ys, rfl, h2, l2⟩ := ls_at g r2 hb
  refine op_cat pins s σ H _ _ v u Qv I rx ry ⟨l, m, xs, ys, rfl, rfl, h1, h2, by rw [l1.length, l2.length]; exact h.1, fun p hp => ?_⟩
  obtain ⟨e, g', rv⟩ := new_lst g hp (l1.append l2)
  exact k _ _ _ _ e g' rv (h.2 p (g.fresh hp))
theorem o_add : DOp X (binaryOp .Add) rAdd := by
  intro pins s σ H x y v u Q I rx ry ⟨G, dx, dy, q, g, r1, r2, h, k⟩
  cases dx with
  | int i =>
    cases dy with
    | int j =>
      cases rv_int r1; cases rv_int r2
      exact op_add pins s σ H _ _ v u Q I rx ry ⟨i, j, rfl, rfl, k _ _ H G (Ext.refl G H) g int_rv h⟩
    | _ => exact h.elim
  | str a =>
    cases dy with
    | str b =>
      cases rv_str r1; cases rv_str r2
      exact op_add_str pins s σ H _ _ v u Q I rx ry ⟨a, b, rfl, rfl, h.1, k _ _ H G (Ext.refl G H) g str_rv h.2⟩
    | _ => exact h.elim
  | tup a =>
    cases dy with
    | tup b =>
      obtain ⟨l, xs, rfl, h1, l1⟩ := tp_at r1
      obtain ⟨m, ys, rfl, h2, l2⟩ := tp_at r2
      refine op_catA pins s σ H _ _ v u Q I rx ry ⟨l, m, xs, ys, rfl, rfl, h1, h2, by rw [l1.length, l2.length]; exact h.1, fun e => ?_, fun _ e => ?_, fun _ _ p hp => ?_⟩
      · have ea : a = [] := List.eq_nil_of_length_eq_zero (by rw [← l1.length, e]; rfl)
        subst ea
        exact k _ _ H G (Ext.refl G H) g r2 h.2
      · have ea : b = [] := List.eq_nil_of_length_eq_zero (by rw [← l2.length, e]; rfl)
        subst ea
        have h2 := h.2
        rw [List.append_nil] at h2
        exact k _ _ H G (Ext.refl G H) g r1 h2
      · obtain ⟨e, g', rv⟩ := new_tup g hp (l1.append l2)
        exact k _ _ _ _ e g' rv h.2
    | _ => exact h.elim
  | lst a =>
    dsimp only [rAdd] at h
    cases q2 : lsOf G dy with
    | none => rw [q2] at h; exact h.elim
    | some b => rw [q2] at h; exact cat_lists I rx ry g r1 r2 rfl q2 h k
  | ref p =>
    dsimp only [rAdd] at h
    cases q1 : lsOf G (.ref p) with
    | none => rw [q1] at h; exact h.elim
    | some a =>
      rw [q1] at h
      cases q2 : lsOf G dy with
      | none => rw [q2] at h; exact h.elim
      | some b => rw [q2] at h; exact cat_lists I rx ry g r1 r2 q1 q2 h k
  | _ => exact h.elim

@[simp] def rInt (C : Int → Int → Prop) (f : Int → Int → D) : DR2 := fun x y G Q => match x with
  | .int i => (match y with
    | .int j => C i j ∧ Q (f i j) G
    | _ => False)
  | _ => False
theorem o_int {f : Value → Value → Sem Value} {C : Int → Int → Prop} {g : Int → Int → Int} (ho : OpR X f (rI C fun i j => .int (g i j))) : DOp X f (rInt C fun i j => .int (g i j)) := by
  intro pins s σ H x y v u Q I rx ry ⟨G, dx, dy, q, g, r1, r2, h, k⟩
  cases dx with
  | int i =>
    cases dy with
    | int j =>
      cases rv_int r1; cases rv_int r2
      exact ho pins s σ H _ _ v u Q I rx ry ⟨i, j, rfl, rfl, h.1, k _ _ H G (Ext.refl G H) g int_rv h.2⟩
    | _ => exact h.elim
  | _ => exact h.elim
@[simp] def rInt0 (f : Int → Int → D) : DR2 := fun x y G Q => match x with
  | .int i => (match y with
    | .int j => Q (f i j) G
    | _ => False)
  | _ => False
theorem o_sub : DOp X (binaryOp .Sub) (rInt0 fun i j => .int (i - j)) := by
  intro pins s σ H x y v u Q I rx ry ⟨G, dx, dy, q, g, r1, r2, h, k⟩
  cases dx with
  | int i =>
    cases dy with
    | int j =>
      cases rv_int r1; cases rv_int r2
      exact op_sub pins s σ H _ _ v u Q I rx ry ⟨i, j, rfl, rfl, k _ _ H G (Ext.refl G H) g int_rv h⟩
    | _ => exact h.elim
  | _ => exact h.elim
theorem o_cmpI {f : Value → Value → Sem Value} {p : Int → Int → Bool} (ho : OpR X f (rI0 fun i j => .bl (p i j))) : DOp X f (rInt0 fun i j => .bl (p i j)) := by
  intro pins s σ H x y v u Q I rx ry ⟨G, dx, dy, q, g, r1, r2, h, k⟩
  cases dx with
  | int i =>
    cases dy with
    | int j =>
      cases rv_int r1; cases rv_int r2
      exact ho pins s σ H _ _ v u Q I rx ry ⟨i, j, rfl, rfl, k _ _ H G (Ext.refl G H) g bl_rv h⟩
    | _ => exact h.elim
  | _ => exact h.elim
abbrev rLt : DR2 := rInt0 fun i j => .bl (decide (i < j))
abbrev rLe : DR2 := rInt0 fun i j => .bl (decide (i ≤ j))
abbrev rGt : DR2 := rInt0 fun i j => .bl (decide (j < i))
abbrev rGe : DR2 := rInt0 fun i j => .bl (decide (j ≤ i))
theorem o_lt : DOp X (compareOp .Lt) rLt := o_cmpI op_lt
theorem o_le : DOp X (compareOp .LtE) rLe := o_cmpI op_le
theorem o_gt : DOp X (compareOp .Gt) rGt := o_cmpI op_gt
theorem o_ge : DOp X (compareOp .GtE) rGe := o_cmpI op_ge
abbrev rMod : DR2 := rInt (fun _ j => 0 < j) fun i j => .int (i % j)
abbrev rFdiv : DR2 := rInt CDiv fun i j => .int (i / j)
abbrev rPow : DR2 := rInt CPow fun i j => .int (i ^ j.toNat)
abbrev rSub : DR2 := rInt0 fun i j => .int (i - j)
theorem o_mod : DOp X (binaryOp .Mod) rMod := o_int op_mod
theorem o_fdiv : DOp X (binaryOp .FloorDiv) rFdiv := o_int op_fdiv
theorem o_pow : DOp X (binaryOp .Pow) rPow := o_int op_pow
end

section
open PySem.Spec PyProof.Rows
theorem tuple_mul0 (l : Addr) (items : Array Value) (n : Nat) (dd : Option Addr) (sl : Array (Option Value)) (x : Int) (u : Tok) (c0 : (decide (x < -(2 ^ 63)) || decide (x ≥ 2 ^ 63)) = false) (c1 : (items.isEmpty || x == 1) = false) (c2 : (decide (x ≤ 0) || items.isEmpty) = true) :
    Meets (Builtin.«tuple.__mul__» ⟨[.ref l, .int x u], []⟩) (fun _ R s => s.heap.get? l = some { cls := .type "tuple", dict := dd, data := .seq items n, slots := sl } ∧
      R (.ok (.ret (Value.ref s.heap.objs.size))) { s with heap := s.heap.push { cls := Value.type "tuple", data := Data.seq #[] }, toks := s.toks }) :=
  .of_wp fun prog w A R s h => by
    obtain ⟨hp, g, d, tk, os⟩ := s
    obtain ⟨hl, h⟩ := h
    have f1 := AutoSeq1.idx_int
    wp_walk using wpAny_loadPart' hl
    repeat (first
      | (refine wpAny_ite_false (decide_eq_false (by rw [c0]; exact Bool.false_ne_true)) ?_; wp_walk using wpAny_loadPart' hl)
      | (refine wpAny_ite_false (decide_eq_false (by rw [c1]; exact Bool.false_ne_true)) ?_; wp_walk using wpAny_loadPart' hl)
      | (refine wpAny_ite_true (decide_eq_true c2) ?_; wp_walk using wpAny_loadPart' hl))
    exact ⟨_, rfl, h⟩
theorem tuple_mul1 (l : Addr) (items : Array Value) (n : Nat) (dd : Option Addr) (sl : Array (Option Value)) (x : Int) (u : Tok) (c0 : (decide (x < -(2 ^ 63)) || decide (x ≥ 2 ^ 63)) = false) (c1 : (items.isEmpty || x == 1) = true) :
    Meets (Builtin.«tuple.__mul__» ⟨[.ref l, .int x u], []⟩) (fun _ R s => s.heap.get? l = some { cls := .type "tuple", dict := dd, data := .seq items n, slots := sl } ∧
      R (.ok (.ret (Value.ref l))) s) :=
  .of_wp fun prog w A R s h => by
    obtain ⟨hp, g, d, tk, os⟩ := s
    obtain ⟨hl, h⟩ := h
    have f1 := AutoSeq1.idx_int
    wp_walk using wpAny_loadPart' hl
    repeat (first
      | (refine wpAny_ite_false (decide_eq_false (by rw [c0]; exact Bool.false_ne_true)) ?_; wp_walk using wpAny_loadPart' hl)
      | (refine wpAny_ite_true (decide_eq_true c1) ?_; wp_walk using wpAny_loadPart' hl))
    exact ⟨_, rfl, h⟩
end
end Dl

namespace Dl
open PySem L2

section
open PySem.Spec PyProof.Rows
variable {X : Cx}
theorem tup_rep {pins : List (Addr × Obj)} {s : Shared} {σ : L2.St} {H : Hp} {l : Addr} {xs : List V} {k : Int} {t : Tok} {Q : VK} (I : Inv X pins σ H s) (hT : SqT X.K H l xs) (hk : -(2 ^ 63) ≤ k ∧ k < 2 ^ 63)
    (h : (xs = [] ∨ k = 1 → Q (.ref l) H) ∧ (xs ≠ [] → k ≤ 0 → ∀ p, H p = none → Q (.ref p) (upd H p (.tup [])))) (hc : xs = [] ∨ k ≤ 1) : wpAny (model X.prog X.w) X.A (binaryOp .Mult (.ref l) (.int k t)) (EP X pins σ Q) X.xe s := by
  obtain ⟨its, r, ⟨⟨cls, dd, data, sl⟩, ho, hcl, n, hd⟩, hs⟩ := I.tuple hT
  simp only at hcl hd
  subst hcl hd
  have hle : its.length = xs.length := r.length.symm
  have c0 : (decide (k < -(2 ^ 63)) || decide (k ≥ 2 ^ 63)) = false := by
    rw [decide_eq_false (by omega), decide_eq_false (by omega)] <;> rfl
  by_cases c1 : (its.toArray.isEmpty || k == 1) = true
  · refine wpAny_binaryOp_repeat_ref (T := "tuple") (U := "int") (by decide) ⟨_, ho, rfl⟩ (fun s' => typeIs_int s' k t) noFill_tuple_mul F.fills_int_mul F.slot_int_rmul repeat_tuple F.slot_int_index.lookup
      (call_meets F.slot_int_rmul (typeIs_int s k t) F.entry_int_rmul (F.args_int_rmul_2 _ _) (int_rmul_tuple k t l its.toArray n dd sl)
        ⟨ho, rfl, ⟨_, ho, rfl⟩, call_meets F.slot_tuple_mul ⟨_, ho, rfl⟩ F.entry_tuple_mul (F.args_tuple_mul_2 _ _) (tuple_mul1 l its.toArray n dd sl k t c0 c1) ⟨ho, ?_⟩⟩)
    refine ⟨.ref l, H, I, rfl, h.1 ?_⟩
    rw [Bool.or_eq_true] at c1
    rcases c1 with c1 | c1
    · refine .inl (List.eq_nil_of_length_eq_zero ?_)
      rw [← hle]
      simpa using c1
    · exact .inr (eq_of_beq c1)
  · have c1' : (its.toArray.isEmpty || k == 1) = false := by simpa using c1
    have hne : xs ≠ [] := fun e => by
      apply c1
      rw [e] at hle
      have : its = [] := List.eq_nil_of_length_eq_zero hle
      subst this
      rfl
    have hk1 : k ≠ 1 := fun e => by
      apply c1
      subst e
      simp
    have hk0 : k ≤ 0 := by
      rcases hc with e | e
      · exact absurd e hne
      · omega
    have c2 : (decide (k ≤ 0) || its.toArray.isEmpty) = true := by rw [decide_eq_true hk0] <;> rfl
    refine wpAny_binaryOp_repeat_ref (T := "tuple") (U := "int") (by decide) ⟨_, ho, rfl⟩ (fun s' => typeIs_int s' k t) noFill_tuple_mul F.fills_int_mul F.slot_int_rmul repeat_tuple F.slot_int_index.lookup
      (call_meets F.slot_int_rmul (typeIs_int s k t) F.entry_int_rmul (F.args_int_rmul_2 _ _) (int_rmul_tuple k t l its.toArray n dd sl)
        ⟨ho, rfl, ⟨_, ho, rfl⟩, call_meets F.slot_tuple_mul ⟨_, ho, rfl⟩ F.entry_tuple_mul (F.args_tuple_mul_2 _ _) (tuple_mul0 l its.toArray n dd sl k t c0 c1' c2) ⟨ho, ?_⟩⟩)
    have hf : H s.heap.objs.size = none := I.hok.fresh (Nat.le_refl _)
    refine ⟨.ref s.heap.objs.size, upd H s.heap.objs.size (.tup []), I.laid (t' := s.toks) (fun b u e => Heap.get?_push_of_some _ e) (Nat.le_refl _) ?_, rfl, h.2 hne hk0 _ hf⟩
    exact ⟨Nat.zero_le _, [], .nil, ⟨_, Heap.get?_push_size _ rfl, rfl, _, rfl⟩⟩
end
@[simp] def rRepL (G : GH) (Q : DK) (a : List D) (y : D) : Prop := match y with
  | .int k => -(2 ^ 63) ≤ k ∧ k < 2 ^ 63 ∧ a.length * k.toNat ≤ sizeLine ∧ ∀ p, G p = none → Q (.ref p) (updG G p (.lst (List.replicate k.toNat a).flatten))
  | _ => False
@[simp] def rMul : DR2 := fun x y G Q => match x with
  | .int i => (match y with
    | .int j => CMul i j ∧ Q (.int (i * j)) G
    | _ => False)
  | .tup a => (match y with
    | .int k => -(2 ^ 63) ≤ k ∧ k ≤ 1000 ∧ (a.length ≤ 1000 ∨ k ≤ 1) ∧ Q (.tup (List.replicate k.toNat a).flatten) G
    | _ => False)
  | .lst a => rRepL G Q a y
  | .ref p => (match lsOf G (.ref p) with
    | some a => rRepL G Q a y
    | none => False)
  | _ => False
section
variable {X : Cx}
theorem rep_list {pins : List (Addr × Obj)} {s : Shared} {σ : St} {H : Hp} {x y : V} {v u : Value} {Qv : VK} {G : GH} {dx dy : D} {q : DK} {a : List D} (I : Inv X pins σ H s) (rx : RelV x v) (ry : RelV y u) (g : GOk X.K G H) (r1 : RepV X.K G H dx x) (r2 : RepV X.K G H dy y)
    (ha : lsOf G dx = some a) (h : rRepL G q a dy) (k : ∀ v d H' G', Ext G H G' H' → GOk X.K G' H' → RepV X.K G' H' d v → q d G' → Qv v H') : wpAny (model X.prog X.w) X.A (binaryOp .Mult v u) (EP X pins σ Qv) X.xe s := by
  obtain ⟨l, xs, rfl, h1, l1⟩ := ls_at g r1 ha
  cases dy with
  | int j =>
    cases rv_int r2
    obtain ⟨h2, h3, h4, h5⟩ := h
    refine op_rep pins s σ H _ _ v u Qv I rx ry ⟨l, j, xs, rfl, rfl, h1, h2, h3, by rw [l1.length]; exact h4, fun p hp => ?_⟩
    obtain ⟨e, g', rv⟩ := new_lst g hp (l1.rep j.toNat)
    exact k _ _ _ _ e g' rv (h5 p (g.fresh hp))
  | _ => exact h.elim
theorem o_mul : DOp X (binaryOp .Mult) rMul := by
  intro pins s σ H x y v u Q I rx ry ⟨G, dx, dy, q, g, r1, r2, h, k⟩
  cases dx with
  | int i =>
    cases dy with
    | int j =>
      cases rv_int r1; cases rv_int r2
      exact op_mul pins s σ H _ _ v u Q I rx ry ⟨i, j, rfl, rfl, h.1, k _ _ H G (Ext.refl G H) g int_rv h.2⟩
    | _ => exact h.elim
  | tup a =>
    cases dy with
    | int j =>
      obtain ⟨l, xs, rfl, h1, l1⟩ := tp_at r1
      cases rv_int r2
      obtain ⟨h2, h3, h4, h5⟩ := h
      by_cases hc : xs = [] ∨ j ≤ 1
      · cases rx
        obtain ⟨t, rfl⟩ := ry
        refine tup_rep I h1 ⟨h2, by omega⟩ ⟨fun z => ?_, fun hne h0 p hp => ?_⟩ hc
        · refine k _ _ H G (Ext.refl G H) g ?_ h5
          have e : (List.replicate j.toNat a).flatten = a := by
            rcases z with z | z
            · have ea : a = [] := List.eq_nil_of_length_eq_zero (by rw [← l1.length, z]; rfl)
              subst ea
              simp
            · subst z
              simp
          rw [e]
          exact r1
        · have e : (List.replicate j.toNat a).flatten = [] := by
            have : j.toNat = 0 := by omega
            rw [this]; rfl
          rw [e] at h5
          obtain ⟨e1, g1, v1⟩ := new_tup (ds := []) (vs := []) g hp repL_nil
          exact k _ _ _ _ e1 g1 v1 h5
      · simp only [not_or] at hc
        refine op_repT pins s σ H _ _ v u Q I rx ry ⟨l, j, xs, rfl, rfl, h1, hc.1, by omega, h3, by rw [l1.length]; exact h4.resolve_right hc.2, fun p hp => ?_⟩
        obtain ⟨e1, g1, v1⟩ := new_tup g hp (l1.rep j.toNat)
        exact k _ _ _ _ e1 g1 v1 h5
    | _ => exact h.elim
  | lst a => exact rep_list I rx ry g r1 r2 rfl h k
  | ref p =>
    dsimp only [rMul] at h
    cases q1 : lsOf G (.ref p) with
    | none => rw [q1] at h; exact h.elim
    | some a => rw [q1] at h; exact rep_list I rx ry g r1 r2 q1 h k
  | _ => exact h.elim
end

mutual
def pyD : D → PyData
  | .non => .none
  | .bl b => .bool b
  | .int i => .int i
  | .str x => .str x
  | .tup ds => .tuple (pyDs ds)
  | .lst ds => .list (pyDs ds)
  | .byt _ => .none
  | .ref _ => .none
  | .scr _ => .none
def pyDs : List D → List PyData
  | [] => []
  | d :: ds => pyD d :: pyDs ds
end
mutual
/-- data with nothing but None, bools, ints, texts, tuples, frozen lists in it -/
def pureD : D → Bool
  | .non => true
  | .bl _ => true
  | .int _ => true
  | .str x => PyData.strOk x
  | .tup ds => pureDs ds
  | .lst ds => pureDs ds
  | _ => false
def pureDs : List D → Bool
  | [] => true
  | d :: ds => pureD d && pureDs ds
end
mutual
def depD : D → Nat
  | .tup ds => depDs ds + 1
  | .lst ds => depDs ds + 1
  | _ => 0
def depDs : List D → Nat
  | [] => 0
  | d :: ds => max (depD d) (depDs ds)
end
mutual
def eqvD : D → D → Bool
  | .non, .non => true
  | .bl a, .bl b => a == b
  | .bl a, .int j => (if a then 1 else 0) == j
  | .int i, .bl b => i == (if b then 1 else 0)
  | .int i, .int j => i == j
  | .str x, .str y => x == y
  | .tup a, .tup b => eqvDs a b
  | .lst a, .lst b => eqvDs a b
  | _, _ => false
def eqvDs : List D → List D → Bool
  | [], [] => true
  | x :: xs, y :: ys => eqvD x y && eqvDs xs ys
  | _, _ => false
end
mutual
theorem depth_py : ∀ d : D, (pyD d).depth = depD d
  | .non => by simp [pyD, depD, PyData.depth]
  | .bl _ => by simp [pyD, depD, PyData.depth]
  | .int _ => by simp [pyD, depD, PyData.depth]
  | .str _ => by simp [pyD, depD, PyData.depth]
  | .tup ds => by simp [pyD, depD, PyData.depth, depths_py ds]
  | .lst ds => by simp [pyD, depD, PyData.depth, depths_py ds]
  | .byt _ => by simp [pyD, depD, PyData.depth]
  | .ref _ => by simp [pyD, depD, PyData.depth]
  | .scr _ => by simp [pyD, depD, PyData.depth]
theorem depths_py : ∀ ds : List D, PyData.depthAll (pyDs ds) = depDs ds
  | [] => by simp [pyDs, depDs, PyData.depthAll]
  | d :: ds => by simp [pyDs, depDs, PyData.depthAll, depth_py d, depths_py ds]
end
mutual
theorem lay_py : ∀ d : D, pureD d = true → (pyD d).canLay0 = true
  | .non, _ => by simp [pyD, PyData.canLay0]
  | .bl _, _ => by simp [pyD, PyData.canLay0]
  | .int _, _ => by simp [pyD, PyData.canLay0]
  | .str x, h => by simpa [pyD, PyData.canLay0, pureD] using h
  | .tup ds, h => by simpa [pyD, PyData.canLay0] using lays_py ds (by simpa [pureD] using h)
  | .lst ds, h => by simpa [pyD, PyData.canLay0] using lays_py ds (by simpa [pureD] using h)
  | .byt _, h => by simp [pureD] at h
  | .ref _, h => by simp [pureD] at h
  | .scr _, h => by simp [pureD] at h
theorem lays_py : ∀ ds : List D, pureDs ds = true → PyData.canLayAll0 (pyDs ds) = true
  | [], _ => by simp [pyDs, PyData.canLayAll0]
  | d :: ds, h => by
    simp only [pureDs, Bool.and_eq_true] at h
    simp [pyDs, PyData.canLayAll0, lay_py d h.1, lays_py ds h.2]
end
mutual
theorem eqv_py : ∀ a b : D, pureD a = true → pureD b = true → PyData.eqv (pyD a) (pyD b) = eqvD a b
  | .tup xs, b, h, k => by
    cases b with
    | tup ys => simpa [pyD, PyData.eqv, eqvD] using eqvs_py xs ys (by simpa [pureD] using h) (by simpa [pureD] using k)
    | byt _ => simp [pureD] at k
    | ref _ => simp [pureD] at k
    | scr _ => simp [pureD] at k
    | _ => simp [pyD, PyData.eqv, eqvD]
  | .lst xs, b, h, k => by
    cases b with
    | lst ys => simpa [pyD, PyData.eqv, eqvD] using eqvs_py xs ys (by simpa [pureD] using h) (by simpa [pureD] using k)
    | byt _ => simp [pureD] at k
    | ref _ => simp [pureD] at k
    | scr _ => simp [pureD] at k
    | _ => simp [pyD, PyData.eqv, eqvD]
  | .non, b, h, k => by cases b <;> first | (simp [pureD] at k; done) | simp [pyD, PyData.eqv, eqvD]
  | .bl _, b, h, k => by cases b <;> first | (simp [pureD] at k; done) | simp [pyD, PyData.eqv, eqvD]
  | .int _, b, h, k => by cases b <;> first | (simp [pureD] at k; done) | simp [pyD, PyData.eqv, eqvD]
  | .str _, b, h, k => by
    cases b with
    | str _ => simp [pyD, PyData.eqv, eqvD]
    | byt _ => simp [pureD] at k
    | ref _ => simp [pureD] at k
    | scr _ => simp [pureD] at k
    | _ => simp [pyD, PyData.eqv, eqvD]
  | .byt _, _, h, _ => by simp [pureD] at h
  | .ref _, _, h, _ => by simp [pureD] at h
  | .scr _, _, h, _ => by simp [pureD] at h
theorem eqvs_py : ∀ a b : List D, pureDs a = true → pureDs b = true → PyData.eqvAll (pyDs a) (pyDs b) = eqvDs a b
  | [], [], _, _ => by simp [pyDs, PyData.eqvAll, eqvDs]
  | [], _ :: _, _, _ => by simp [pyDs, PyData.eqvAll, eqvDs]
  | _ :: _, [], _, _ => by simp [pyDs, PyData.eqvAll, eqvDs]
  | x :: xs, y :: ys, h, k => by
    simp only [pureDs, Bool.and_eq_true] at h k
    simp [pyDs, PyData.eqvAll, eqvDs, eqv_py x y h.1 k.1, eqvs_py xs ys h.2 k.2]
end
mutual
theorem dp_of {K : PySem.W.Frag} {G : GH} {H : Hp} : ∀ {d : D} {v : V}, RepV K G H d v → pureD d = true → Dp K H v (pyD d)
  | .non, v, h, _ => by cases rv_non h; simp only [pyD]; exact .non
  | .bl b, v, h, _ => by cases rv_bl h; simp only [pyD]; exact .bl b
  | .int i, v, h, _ => by cases rv_int h; simp only [pyD]; exact .int i
  | .str x, v, h, _ => by cases rv_str h; simp only [pyD]; exact .str x
  | .tup ds, v, h, k => by
    obtain ⟨a, xs, rfl, t, rl⟩ := tp_at h
    simp only [pyD]
    exact .tup t (dps_of rl (by simpa [pureD] using k))
  | .lst ds, v, h, k => by
    unfold RepV at h
    obtain ⟨a, xs, rfl, t, rl⟩ := h
    simp only [pyD]
    exact .lst t.sq (dps_of rl (by simpa [pureD] using k))
  | .byt _, _, _, k => by simp [pureD] at k
  | .ref _, _, _, k => by simp [pureD] at k
  | .scr _, _, _, k => by simp [pureD] at k
theorem dps_of {K : PySem.W.Frag} {G : GH} {H : Hp} : ∀ {ds : List D} {vs : List V}, RepL K G H ds vs → pureDs ds = true → DpAll K H vs (pyDs ds)
  | [], vs, h, _ => by unfold RepL at h; subst h; simp only [pyDs]; exact .nil
  | d :: ds, vs, h, k => by
    unfold RepL at h
    obtain ⟨x, r, rfl, h1, h2⟩ := h
    simp only [pureDs, Bool.and_eq_true] at k
    simp only [pyDs]
    exact .cons (dp_of h1 k.1) (dps_of h2 k.2)
end
@[simp] def vw (G : GH) : D → D
  | .ref a => (match G a with
    | some (.lst ds) => .lst ds
    | _ => .ref a)
  | d => d
theorem vw_dp {K : PySem.W.Frag} {G : GH} {H : Hp} {d : D} {v : V} (g : GOk K G H) (r : RepV K G H d v) (h : pureD (vw G d) = true) : Dp K H v (pyD (vw G d)) := by
  cases d with
  | ref a =>
    cases rv_ref r
    dsimp only [vw] at h ⊢
    cases q : G a with
    | none => rw [q] at h; simp [pureD] at h
    | some o =>
      rw [q] at h
      cases o with
      | lst ds =>
        obtain ⟨xs, h1, rl⟩ := g a _ q
        simp only [pyD]
        exact .lst (SqL.of h1) (dps_of rl (by simpa [pureD] using h))
      | dct _ => simp [pureD] at h
      | raw _ => simp [pureD] at h
  | _ => exact dp_of r h
def okD (d : D) : Prop := pureD d = true ∧ depD d ≤ 64
theorem okD.shaped {d : D} (h : okD d) : SeqAt.shaped (pyD d) = true := by
  unfold SeqAt.shaped
  rw [Bool.and_eq_true]
  exact ⟨lay_py d h.1, decide_eq_true (by rw [depth_py]; exact h.2)⟩
@[simp] def rCmpG (f : Bool → Bool) (a b : D) (G : GH) (Q : DK) : Prop := okD a ∧ okD b ∧ Q (.bl (f (eqvD a b))) G
@[simp] def rCmp (f : Bool → Bool) : DR2 := fun x y G Q => match vw G x with
  | .str a => (match vw G y with
    | .str b => Q (.bl (f (decide (a = b)))) G
    | b => rCmpG f (.str a) b G Q)
  | .int a => (match vw G y with
    | .int b => Q (.bl (f (decide (a = b)))) G
    | b => rCmpG f (.int a) b G Q)
  | a => rCmpG f a (vw G y) G Q
abbrev rEqv : DR2 := rCmp id
abbrev rNev : DR2 := rCmp not
section
variable {X : Cx}
theorem rCmp_gen {f : Bool → Bool} {x y : D} {G : GH} {Q : DK} (h : rCmp f x y G Q) : (∃ a b, x = .str a ∧ y = .str b ∧ Q (.bl (f (decide (a = b)))) G) ∨ (∃ a b, x = .int a ∧ y = .int b ∧ Q (.bl (f (decide (a = b)))) G) ∨ rCmpG f (vw G x) (vw G y) G Q := by
  have hv : ∀ (d : D) (s : Str), vw G d = .str s → d = .str s := fun d s e => by
    cases d with
    | ref a => dsimp only [vw] at e; split at e <;> cases e
    | _ => exact e
  have hi : ∀ (d : D) (s : Int), vw G d = .int s → d = .int s := fun d s e => by
    cases d with
    | ref a => dsimp only [vw] at e; split at e <;> cases e
    | _ => exact e
  dsimp only [rCmp] at h
  cases e1 : vw G x with
  | str a =>
    rw [e1] at h
    cases e2 : vw G y with
    | str b => rw [e2] at h; exact .inl ⟨a, b, hv _ _ e1, hv _ _ e2, h⟩
    | _ => rw [e2] at h; exact .inr (.inr h)
  | int a =>
    rw [e1] at h
    cases e2 : vw G y with
    | int b => rw [e2] at h; exact .inr (.inl ⟨a, b, hi _ _ e1, hi _ _ e2, h⟩)
    | _ => rw [e2] at h; exact .inr (.inr h)
  | _ => rw [e1] at h; exact .inr (.inr h)
theorem o_eq (hu : X.A.units + 64 < cLine) : DOp X (compareOp .Eq) rEqv := by
  intro pins s σ H x y v u Q I rx ry ⟨G, dx, dy, q, g, r1, r2, h, k⟩
  rcases rCmp_gen h with ⟨a, b, rfl, rfl, h⟩ | ⟨a, b, rfl, rfl, h⟩ | ⟨h1, h2, h3⟩
  · cases rv_str r1; cases rv_str r2
    refine op_eq pins s σ H _ _ v u Q I rx ry ⟨rfl, k _ _ H G (Ext.refl G H) g ?_ h⟩
    rw [show decide (V.str a = V.str b) = decide (a = b) by simp]
    exact bl_rv
  · cases rv_int r1; cases rv_int r2
    refine op_eq pins s σ H _ _ v u Q I rx ry ⟨rfl, k _ _ H G (Ext.refl G H) g ?_ h⟩
    rw [show decide (V.int a = V.int b) = decide (a = b) by simp]
    exact bl_rv
  · refine op_eqD hu pins s σ H _ _ v u Q I rx ry ⟨_, _, vw_dp g r1 h1.1, vw_dp g r2 h2.1, h1.shaped, h2.shaped, k _ _ H G (Ext.refl G H) g ?_ h3⟩
    rw [eqv_py _ _ h1.1 h2.1]
    exact bl_rv
theorem o_ne (hu : X.A.units + 64 < cLine) : DOp X (compareOp .NotEq) rNev := by
  intro pins s σ H x y v u Q I rx ry ⟨G, dx, dy, q, g, r1, r2, h, k⟩
  rcases rCmp_gen h with ⟨a, b, rfl, rfl, h⟩ | ⟨a, b, rfl, rfl, h⟩ | ⟨h1, h2, h3⟩
  · cases rv_str r1; cases rv_str r2
    refine op_ne pins s σ H _ _ v u Q I rx ry ⟨rfl, k _ _ H G (Ext.refl G H) g ?_ h⟩
    rw [show decide (V.str a = V.str b) = decide (a = b) by simp]
    exact bl_rv
  · cases rv_int r1; cases rv_int r2
    refine op_ne pins s σ H _ _ v u Q I rx ry ⟨rfl, k _ _ H G (Ext.refl G H) g ?_ h⟩
    rw [show decide (V.int a = V.int b) = decide (a = b) by simp]
    exact bl_rv
  · refine op_neD hu pins s σ H _ _ v u Q I rx ry ⟨_, _, vw_dp g r1 h1.1, vw_dp g r2 h2.1, h1.shaped, h2.shaped, k _ _ H G (Ext.refl G H) g ?_ h3⟩
    rw [eqv_py _ _ h1.1 h2.1]
    exact bl_rv
end
end Dl

namespace Dl
open PySem L2

def flatD : D → Bool
  | .non => true
  | .bl _ => true
  | .int _ => true
  | .str _ => true
  | _ => false
theorem flat_rep {K : PySem.W.Frag} {G : GH} {H : Hp} {d : D} {v : V} (h : flatD d = true) (r : RepV K G H d v) : flatV v = true ∧ ∀ (e : D) (w : V), flatD e = true → RepV K G H e w → eqV w v = eqvD e d := by
  have key : ∀ (e : D) (w : V), flatD e = true → RepV K G H e w → (e = .non ∧ w = .non) ∨ (∃ b, e = .bl b ∧ w = .bl b) ∨ (∃ i, e = .int i ∧ w = .int i) ∨ ∃ x, e = .str x ∧ w = .str x := by
    intro e w he re
    cases e with
    | non => exact .inl ⟨rfl, rv_non re⟩
    | bl b => exact .inr (.inl ⟨b, rfl, rv_bl re⟩)
    | int b => exact .inr (.inr (.inl ⟨b, rfl, rv_int re⟩))
    | str b => exact .inr (.inr (.inr ⟨b, rfl, rv_str re⟩))
    | _ => simp [flatD] at he
  rcases key d v h r with ⟨rfl, rfl⟩ | ⟨b, rfl, rfl⟩ | ⟨b, rfl, rfl⟩ | ⟨b, rfl, rfl⟩ <;> refine ⟨rfl, fun e w he re => ?_⟩ <;>
    rcases key e w he re with ⟨rfl, rfl⟩ | ⟨c, rfl, rfl⟩ | ⟨c, rfl, rfl⟩ | ⟨c, rfl, rfl⟩ <;> simp [eqV, eqvD]
def inD (x : D) (ds : List D) : Bool := ds.any fun y => eqvD y x
@[simp] def rInn (f : Bool → Bool) : DR2 := fun x y G Q => match sqOf G y with
  | some ds => flatD x = true ∧ ds.all flatD = true ∧ Q (.bl (f (inD x ds))) G
  | none => False
theorem flats_rep {K : PySem.W.Frag} {G : GH} {H : Hp} {d : D} {v : V} (h : flatD d = true) (r : RepV K G H d v) : ∀ {ds : List D} {xs : List V}, RepL K G H ds xs → ds.all flatD = true → xs.all flatV = true ∧ inV v xs = inD d ds
  | [], xs, rl, _ => by unfold RepL at rl; subst rl; exact ⟨rfl, rfl⟩
  | e :: ds, xs, rl, ha => by
    unfold RepL at rl
    obtain ⟨x, t, rfl, h1, h2⟩ := rl
    simp only [List.all_cons, Bool.and_eq_true] at ha
    obtain ⟨i1, i2⟩ := flats_rep h r h2 ha.2
    obtain ⟨f1, _⟩ := flat_rep ha.1 h1
    have f2 := (flat_rep h r).2 e x ha.1 h1
    refine ⟨by simp [f1, i1], ?_⟩
    unfold inV inD at i2 ⊢
    simp only [List.any_cons]
    rw [f2, i2]
section
variable {X : Cx}
theorem o_in : DOp X (compareOp .In) (rInn id) := by
  intro pins s σ H x y v u Q I rx ry ⟨G, dx, dy, q, g, r1, r2, h, k⟩
  dsimp only [rInn] at h
  cases e : sqOf G dy with
  | none => rw [e] at h; exact h.elim
  | some ds =>
    rw [e] at h
    obtain ⟨a, xs, rfl, hs, rl⟩ := sq_at g r2 e
    obtain ⟨h1, h2, h3⟩ := h
    obtain ⟨f1, f2⟩ := flats_rep h1 r1 rl h2
    refine op_in_seq pins s σ H _ _ v u Q I rx ry ⟨a, xs, rfl, hs, (flat_rep h1 r1).1, f1, k _ _ H G (Ext.refl G H) g ?_ h3⟩
    rw [f2]
    exact bl_rv
end
@[simp] def isNonD : D → Bool
  | .non => true
  | _ => false
@[simp] def rIsN (f : Bool → Bool) : DR2 := fun x y G Q => match y with
  | .non => Q (.bl (f (isNonD x))) G
  | _ => False
section
variable {X : Cx}
end

theorem atI_rep {K : PySem.W.Frag} {G : GH} {H : Hp} {ds : List D} {xs : List V} {i : Int} {d : D} (rl : RepL K G H ds xs) (h : atI ds i = some d) : ∃ v, atI xs i = some v ∧ RepV K G H d v := by
  unfold atI at h ⊢
  rw [rl.length]
  cases e : ixN ds.length i with
  | none => rw [e] at h; cases h
  | some j =>
    rw [e] at h
    exact rl.get h
@[simp] def rIx : DR2 := fun x y G Q => match y with
  | .int i => (match sqOf G x with
    | some ds => (match atI ds i with
      | some d => Q d G
      | none => False)
    | none => False)
  | _ => False
section
variable {X : Cx}
theorem x_ix : IxR X (upR X.K rIx) := by
  intro ve sx pins s σ H x y v u Q I rx ry ⟨G, dx, dy, q, g, r1, r2, h, k⟩ hsub
  cases dy with
  | int i =>
    cases rv_int r2
    dsimp only [rIx] at h
    cases e : sqOf G dx with
    | none => rw [e] at h; exact h.elim
    | some ds =>
      rw [e] at h
      dsimp only at h
      obtain ⟨a, xs, rfl, hs, rl⟩ := sq_at g r1 e
      cases e2 : atI ds i with
      | none => rw [e2] at h; exact h.elim
      | some d =>
        rw [e2] at h
        obtain ⟨w, hw, rw'⟩ := atI_rep rl e2
        refine (ix_list.or ix_tup) ve sx pins s σ H _ _ v u Q I rx ry ?_ hsub
        rcases hs with hs | hs
        · exact .inl ⟨a, xs, i, w, rfl, rfl, hs, hw, k _ _ H G (Ext.refl G H) g rw' h⟩
        · exact .inr ⟨a, xs, i, w, rfl, rfl, hs, hw, k _ _ H G (Ext.refl G H) g rw' h⟩
  | _ => exact h.elim
theorem de_ix {a b : Expr} {ta tb : DTE} {pos : Pos} (ha : DE X a ta) (hb : DE X b tb) (hs : PlainIx b := by exact fun _ _ => rfl) : DE X (.Subscript a b pos) (dOp rIx ta tb) := (pe_ix x_ix ha hb hs).imp fun _ _ _ h => up_op h

end
@[simp] def keyD : D → Option Key
  | .int i => some (.inl i)
  | .str x => some (.inr x)
  | _ => none
def getK : List (Key × D) → Key → Option D
  | [], _ => none
  | p :: r, k => if p.1 = k then some p.2 else getK r k
def putD (kvs : List (Key × D)) (k : Key) (d : D) : List (Key × D) :=
  if (kvs.any fun kv => decide (kv.1 = k)) = true then kvs.map (fun kv => if kv.1 = k then (kv.1, d) else kv) else kvs ++ [(k, d)]
theorem key_rep {K : PySem.W.Frag} {G : GH} {H : Hp} {d : D} {v : V} {k : Key} (r : RepV K G H d v) (h : keyD d = some k) : v = kV k := by
  cases d with
  | int i => simp only [keyD, Option.some.injEq] at h; subst h; exact rv_int r
  | str i => simp only [keyD, Option.some.injEq] at h; subst h; exact rv_str r
  | _ => simp [keyD] at h
theorem getK_rep {K : PySem.W.Frag} {G : GH} {H : Hp} {k : Key} : ∀ {kvs : List (Key × D)} {ws : List (Key × V)}, ws.map (·.1) = kvs.map (·.1) → RepL K G H (kvs.map (·.2)) (ws.map (·.2)) → match getK kvs k with
    | some d => ∃ v, valV ws k = some v ∧ RepV K G H d v
    | none => valV ws k = none
  | [], [], _, _ => rfl
  | [], _ :: _, e, _ => by simp at e
  | _ :: _, [], e, _ => by simp at e
  | p :: kvs, q :: ws, e, rl => by
    simp only [List.map_cons, List.cons.injEq] at e
    simp only [List.map_cons] at rl
    unfold RepL at rl
    obtain ⟨x, r, e2, h1, h2⟩ := rl
    simp only [List.cons.injEq] at e2
    obtain ⟨e3, e4⟩ := e2
    subst e3
    rw [← e4] at h2
    have ih := getK_rep (k := k) e.2 h2
    unfold getK
    by_cases hk : p.1 = k
    · rw [if_pos hk]
      exact ⟨q.2, valV_pos (e.1.trans hk), h1⟩
    · rw [if_neg hk]
      cases q2 : getK kvs k with
      | none => rw [q2] at ih; exact (valV_neg (fun z => hk (e.1.symm.trans z))).trans ih
      | some d =>
        rw [q2] at ih
        obtain ⟨v, i1, i2⟩ := ih
        exact ⟨v, (valV_neg (fun z => hk (e.1.symm.trans z))).trans i1, i2⟩
theorem putD_rep {K : PySem.W.Frag} {G : GH} {H : Hp} {k : Key} {d : D} {v : V} (rv : RepV K G H d v) {kvs : List (Key × D)} {ws : List (Key × V)} (e : ws.map (·.1) = kvs.map (·.1)) (rl : RepL K G H (kvs.map (·.2)) (ws.map (·.2))) :
    (putK ws k v).map (·.1) = (putD kvs k d).map (·.1) ∧ RepL K G H ((putD kvs k d).map (·.2)) ((putK ws k v).map (·.2)) := by
  have hany : (ws.any fun kv => decide (kv.1 = k)) = kvs.any fun kv => decide (kv.1 = k) := by
    have : ∀ (l : List (Key × V)), (l.any fun kv => decide (kv.1 = k)) = (l.map (·.1)).any fun z => decide (z = k) := fun l => by simp [List.any_map, Function.comp_def]
    have h2 : ∀ (l : List (Key × D)), (l.any fun kv => decide (kv.1 = k)) = (l.map (·.1)).any fun z => decide (z = k) := fun l => by simp [List.any_map, Function.comp_def]
    rw [this, h2, e]
  unfold putK putD
  rw [hany]
  by_cases ha : (kvs.any fun kv => decide (kv.1 = k)) = true
  · rw [if_pos ha, if_pos ha]
    clear hany ha
    induction kvs generalizing ws with
    | nil =>
      cases ws with
      | nil => exact ⟨rfl, repL_nil⟩
      | cons q ws => simp at e
    | cons p kvs ih =>
      cases ws with
      | nil => simp at e
      | cons q ws =>
        simp only [List.map_cons, List.cons.injEq] at e
        simp only [List.map_cons] at rl
        unfold RepL at rl
        obtain ⟨x, r, e2, h1, h2⟩ := rl
        simp only [List.cons.injEq] at e2
        obtain ⟨e3, e4⟩ := e2
        subst e3
        rw [← e4] at h2
        obtain ⟨i1, i2⟩ := ih e.2 h2
        simp only [List.map_cons]
        by_cases hk : p.1 = k
        · rw [if_pos hk, if_pos (e.1.trans hk)]
          exact ⟨by rw [i1, e.1], repL_cons rv i2⟩
        · rw [if_neg hk, if_neg (fun z => hk (e.1.symm.trans z))]
          exact ⟨by rw [i1, e.1], repL_cons h1 i2⟩
  · rw [if_neg ha, if_neg ha]
    simp only [List.map_append, List.map_cons, List.map_nil]
    exact ⟨by rw [e], rl.append (repL_one rv)⟩
@[simp] def dctP (G : GH) (x : D) (P : Addr → List (Key × D) → Prop) : Prop := match x with
  | .ref a => (match G a with
    | some (.dct kvs) => P a kvs
    | _ => False)
  | _ => False
@[simp] def keyP (y : D) (P : Key → Prop) : Prop := match keyD y with
  | some k => P k
  | none => False
@[simp] def dDGet (td ty : DTE) : DTE := fun ρ G Q => td ρ G fun x G1 => ty ρ G1 fun y G2 => dctP G2 x fun _ kvs => keyP y fun k => match getK kvs k with
  | some d => Q d G2
  | none => False
@[simp] def rDIn (f : Bool → Bool) : DR2 := fun y x G Q => dctP G x fun _ kvs => keyP y fun k => Q (.bl (f (getK kvs k).isSome)) G
@[simp] def sDct : DSet := fun o i d G Q => dctP G o fun a kvs => keyP i fun k => kvs.length < sizeLine ∧ Q (updG G a (.dct (putD kvs k d)))
theorem keyP_of {y : D} {P : Key → Prop} (h : keyP y P) : ∃ k, keyD y = some k ∧ P k := by
  unfold keyP at h
  split at h
  · exact ⟨_, by assumption, h⟩
  · exact h.elim
theorem dct_of {K : PySem.W.Frag} {G : GH} {H : Hp} {x : D} {v : V} {P : Addr → List (Key × D) → Prop} (g : GOk K G H) (r : RepV K G H x v) (h : dctP G x P) :
    ∃ a kvs ws, x = .ref a ∧ v = .ref a ∧ G a = some (.dct kvs) ∧ P a kvs ∧ H a = some (.dK ws) ∧ ws.map (·.1) = kvs.map (·.1) ∧ RepL K G H (kvs.map (·.2)) (ws.map (·.2)) := by
  cases x with
  | ref a =>
    dsimp only [dctP] at h
    cases q : G a with
    | none => rw [q] at h; exact h.elim
    | some o =>
      rw [q] at h
      cases o with
      | dct kvs =>
        obtain ⟨ws, h1, h2, h3⟩ := g a _ q
        exact ⟨a, kvs, ws, rfl, rv_ref r, q, h, h1, h2, h3⟩
      | _ => exact h.elim
  | _ => exact h.elim
section
variable {X : Cx}
theorem de_dget {o i : Expr} {td ty : DTE} {pos : Pos} (hu : X.A.units + 1 < cLine) (ho : DE X o td) (hi : DE X i ty) (hs : NoSl i := by exact fun _ _ => rfl) : DE X (.Subscript o i pos) (dDGet td ty) := by
  refine (pe_dget hu ho hi hs).imp fun σ H Q ⟨ρ, G, q, r, h, k⟩ => ?_
  refine ⟨ρ, G, _, r, h, fun x dx H1 G1 e1 r1 v1 h1 => ?_⟩
  refine ⟨ρ, G1, _, r1, h1, fun y dy H2 G2 e2 r2 v2 h2 => ?_⟩
  obtain ⟨a, kvs, ws, rfl, rfl, hg, h2, w1, w2, w3⟩ := dct_of r2.gok (v1.ext e2) h2
  obtain ⟨kk, hk, h2⟩ := keyP_of h2
  cases key_rep v2 hk
  have gr := getK_rep (k := kk) w2 w3
  cases hd : getK kvs kk with
  | none => rw [hd] at h2; exact h2.elim
  | some d =>
    rw [hd] at h2 gr
    obtain ⟨w, e3, rw'⟩ := gr
    refine ⟨a, w, rfl, ?_, k w d H2 G2 (e1.trans e2) r2 rw' h2⟩
    rw [← e3]
    exact DGet.k w1
theorem set_dct (hu : X.A.units + 1 < cLine) : PSet X (upSet X.K sDct) := by
  intro pins s σ H o i v ov iv u Q I ro ri rv ⟨G, dO, di, d, q, g, r1, r2, r3, h, k⟩
  obtain ⟨a, kvs, ws, rfl, rfl, hg, h2, w1, w2, w3⟩ := dct_of g r1 h
  obtain ⟨kk, hk, h2⟩ := keyP_of h2
  cases key_rep r2 hk
  obtain rfl : ov = Value.ref a := ro
  have hl : ws.length = kvs.length := by simpa using congrArg List.length w2
  have e : Ext G H (updG G a (.dct (putD kvs kk d))) (upd H a (.dK (putK ws kk v))) := Ext.write hg
  obtain ⟨p1, p2⟩ := putD_rep (k := kk) r3 w2 w3
  refine d_setItem hu I (DPut.k (k := kk) w1 (by rw [hl]; exact h2.1)) ri rv fun s4 I4 => ⟨_, I4, ?_⟩
  exact k _ _ e (g.put e ⟨_, upd_same, p1, p2.ext e⟩) h2.2
end
@[simp] def lstP (G : GH) (x : D) (P : Addr → List D → Prop) : Prop := match x with
  | .ref a => (match G a with
    | some (.lst ds) => P a ds
    | _ => False)
  | _ => False
@[simp] def sLst : DSet := fun o i d G Q => lstP G o fun a ds => match i with
  | .int k => (match ixN ds.length k with
    | some j => Q (updG G a (.lst (ds.set j d)))
    | none => False)
  | _ => False
theorem lst_of {K : PySem.W.Frag} {G : GH} {H : Hp} {x : D} {v : V} {P : Addr → List D → Prop} (g : GOk K G H) (r : RepV K G H x v) (h : lstP G x P) : ∃ a ds xs, x = .ref a ∧ v = .ref a ∧ G a = some (.lst ds) ∧ P a ds ∧ H a = some (.lst xs) ∧ RepL K G H ds xs := by
  cases x with
  | ref a =>
    dsimp only [lstP] at h
    cases q : G a with
    | none => rw [q] at h; exact h.elim
    | some o =>
      rw [q] at h
      cases o with
      | lst ds =>
        obtain ⟨ws, h1, h2⟩ := g a _ q
        exact ⟨a, ds, ws, rfl, rv_ref r, q, h, h1, h2⟩
      | _ => exact h.elim
  | _ => exact h.elim
section
variable {X : Cx}
theorem set_lst : PSet X (upSet X.K sLst) := by
  intro pins s σ H o i v ov iv u Q I ro ri rv ⟨G, dO, di, d, q, g, r1, r2, r3, h, k⟩
  obtain ⟨a, ds, xs, rfl, rfl, hg, h2, w1, w2⟩ := lst_of g r1 h
  cases di with
  | int j =>
    cases rv_int r2
    dsimp only at h2
    cases e : ixN ds.length j with
    | none => rw [e] at h2; exact h2.elim
    | some n =>
      rw [e] at h2
      refine set_list pins s σ H _ _ _ ov iv u Q I ro ri rv ⟨a, xs, j, n, rfl, rfl, w1, by rw [w2.length]; exact e, ?_⟩
      obtain ⟨e1, g1⟩ := put_lst g hg (w2.set r3 n)
      exact k _ _ e1 g1 h2
  | _ => exact h2.elim

end
abbrev DTO := DSt → GH → (Option Int → GH → Prop) → Prop
def upO (K : PySem.W.Frag) (t : DTO) : TO := fun σ H Qv => ∃ ρ G Q, DRel K σ H ρ G ∧ t ρ G Q ∧ ∀ o H' G', Ext G H G' H' → DRel K σ H' ρ G' → Q o G' → Qv o H'
abbrev DO' (X : Cx) (e : Option Expr) (t : DTO) : Prop := PO X e (upO X.K t)
@[simp] def dNoP : DTO := fun _ G Q => Q none G
@[simp] def dP (t : DTE) : DTO := fun ρ G Q => t ρ G fun d G1 => match d with
  | .int i => Q (some i) G1
  | _ => False
def cutD (xs : List D) (lo hi : Option Int) : List D := (xs.drop (HT.sIx xs.length 0 lo)).take (HT.sIx xs.length xs.length hi - HT.sIx xs.length 0 lo)
theorem cut_rep {K : PySem.W.Frag} {G : GH} {H : Hp} {ds : List D} {xs : List V} (rl : RepL K G H ds xs) (lo hi : Option Int) : RepL K G H (cutD ds lo hi) (cutV xs lo hi) := by
  unfold cutD cutV
  rw [rl.length]
  exact (rl.drop _).take _
@[simp] def rSl : D → Option Int → Option Int → GH → DK → Prop := fun x lo hi G Q => match x with
  | .tup ds => Q (.tup (cutD ds lo hi)) G
  | .scr ns => ∀ p, G p = none → Q (.ref p) (updG G p (.lst (cutD (ns.map D.int) lo hi)))
  | .lst ds => ∀ p, G p = none → Q (.ref p) (updG G p (.lst (cutD ds lo hi)))
  | .ref a => (match G a with
    | some (.lst ds) => ∀ p, G p = none → Q (.ref p) (updG G p (.lst (cutD ds lo hi)))
    | _ => False)
  | _ => False
def upSl (K : PySem.W.Frag) (r : D → Option Int → Option Int → GH → DK → Prop) : V → Option Int → Option Int → Hp → VK → Prop := fun x lo hi H Qv => ∃ (G : GH) (d : D) (Q : DK), GOk K G H ∧ RepV K G H d x ∧ r d lo hi G Q ∧ ∀ v d H' G', Ext G H G' H' → GOk K G' H' → RepV K G' H' d v → Q d G' → Qv v H'
@[simp] def dSl (te : DTE) (tl th : DTO) : DTE := fun ρ G Q => te ρ G fun x G1 => tl ρ G1 fun l G2 => th ρ G2 fun u G3 => rSl x l u G3 Q
section
variable {X : Cx}
theorem PO.imp {e : Option Expr} {t t' : TO} (h : PO X e t) (i : ∀ σ H Q, t' σ H Q → t σ H Q) : PO X e t' := ⟨fun pins s σ H Q I q => h.run pins s σ H Q I (i σ H Q q)⟩
theorem do_none : DO' X none dNoP := PO.imp po_none fun σ H Q ⟨ρ, G, q, r, h, k⟩ => k none H G (Ext.refl G H) r h
theorem do_some {e : Expr} {te : DTE} (h : DE X e te) : DO' X (some e) (dP te) := PO.imp (po_some h) fun σ H Q ⟨ρ, G, q, r, h, k⟩ => by
  refine ⟨ρ, G, _, r, h, fun x dx H1 G1 e1 r1 v1 h1 => ?_⟩
  cases dx with
  | int i => cases rv_int v1; exact ⟨i, rfl, k (some i) H1 G1 e1 r1 h1⟩
  | _ => exact h1.elim
theorem sl_all : SlR X (upSl X.K rSl) := by
  intro pins s σ H x v vl vu lo hi sl Q I rx hs pl pu ⟨G, d, q, g, r, h, k⟩
  have lcase : ∀ (a : Addr) (xs : List V) (ds : List D), x = .ref a → SqL X.K H a xs → RepL X.K G H ds xs → (∀ p, G p = none → q (.ref p) (updG G p (.lst (cutD ds lo hi)))) →
      ∃ T id, typeLookup (.type T) "__getitem__" = pure (some (.builtin id)) ∧ s.TypeIs v T ∧ wpAny (model X.prog X.w) X.A (getItem v (.ref sl)) (EP X pins σ Q) X.xe s := by
    intro a xs ds e hq rl hk
    refine sl_list pins s σ H x v vl vu lo hi sl Q I rx hs pl pu ⟨a, xs, e, hq, fun p hp => ?_⟩
    obtain ⟨e1, g1, v1⟩ := new_lst g hp (cut_rep rl lo hi)
    exact k _ _ _ _ e1 g1 v1 (hk p (g.fresh hp))
  cases d with
  | tup ds =>
    obtain ⟨a, xs, e, t, rl⟩ := tp_at r
    refine sl_tupA pins s σ H x v vl vu lo hi sl Q I rx hs pl pu ⟨a, xs, e, t, fun z => ?_, fun z p hp => ?_⟩
    · have e2 : cutD ds lo hi = ds := by
        unfold cutD
        rw [← rl.length, z.1, z.2]
        simp [rl.length]
      subst e
      refine k _ _ H G (Ext.refl G H) g ?_ h
      rw [e2]
      exact r
    · obtain ⟨e1, g1, v1⟩ := new_tup g hp (cut_rep rl lo hi)
      exact k _ _ _ _ e1 g1 v1 h
  | scr ns =>
    unfold RepV at r
    obtain ⟨a, e, t⟩ := r
    exact lcase a _ _ e t.sq repL_of_ints h
  | lst ds =>
    unfold RepV at r
    obtain ⟨a, xs, e, t, rl⟩ := r
    exact lcase a xs ds e t.sq rl h
  | ref a =>
    cases rv_ref r
    dsimp only [rSl] at h
    cases hg : G a with
    | none => rw [hg] at h; exact h.elim
    | some o =>
      rw [hg] at h
      cases o with
      | lst ds =>
        obtain ⟨xs, h1, h2⟩ := g a _ hg
        exact lcase a xs ds rfl (SqL.of h1) h2 h
      | _ => exact h.elim
  | _ => exact h.elim
theorem de_slice {e : Expr} {lo hi : Option Expr} {te : DTE} {tl th : DTO} {p2 pos : Pos} (he : DE X e te) (hl : DO' X lo tl) (hh : DO' X hi th) : DE X (.Subscript e (.Slice lo hi none p2) pos) (dSl te tl th) := by
  refine (pe_slice sl_all he hl hh).imp fun σ H Q ⟨ρ, G, q, r, h, k⟩ => ?_
  refine ⟨ρ, G, _, r, h, fun x dx H1 G1 e1 r1 v1 h1 => ?_⟩
  refine ⟨ρ, G1, _, r1, h1, fun l H2 G2 e2 r2 h2 => ?_⟩
  refine ⟨ρ, G2, _, r2, h2, fun u H3 G3 e3 r3 h3 => ?_⟩
  exact ⟨G3, dx, q, r3.gok, v1.ext (e2.trans e3), h3, fun v d H' G' e4 g4 v4 h4 => k v d H' G' (((e1.trans e2).trans e3).trans e4) (r3.ext e4 g4) v4 h4⟩
end
end Dl

namespace Dl
open PySem L2

abbrev DRC := List D → GH → DK → Prop
def upC (K : PySem.W.Frag) (r : DRC) : List V → Hp → VK → Prop := fun xs H Qv => ∃ (G : GH) (ds : List D) (Q : DK), GOk K G H ∧ RepL K G H ds xs ∧ r ds G Q ∧ ∀ v d H' G', Ext G H G' H' → GOk K G' H' → RepV K G' H' d v → Q d G' → Qv v H'
abbrev DCall (X : Cx) (f : Value) (r : DRC) : Prop := CallR X f (upC X.K r)
@[simp] def dCB (r : DRC) (t : DTA) : DTE := fun ρ G Q => t ρ G fun ds G1 => r ds G1 Q
theorem up_cb {K : PySem.W.Frag} {r : DRC} {t : DTA} {σ : St} {H : Hp} {Q : VK} (h : up K (dCB r t) σ H Q) : tCB (upC K r) (upA K t) σ H Q := by
  obtain ⟨ρ, G, q, r0, h, k⟩ := h
  refine ⟨ρ, G, _, r0, h, fun vs ds H1 G1 e1 r1 v1 h1 => ?_⟩
  exact ⟨G1, ds, q, r1.gok, v1, h1, fun v d H' G' e2 g2 v2 h2 => k v d H' G' (e1.trans e2) (r1.ext e2 g2) v2 h2⟩
section
variable {X : Cx} {x : Str} {p pos : Pos} {e : Expr} {es : List Expr} {t : DTA} {id T : String} {r : DRC}
theorem de_callB (hc : DCall X (.builtin id) r) (hg : Gl X x) (hm : X.mg x = none) (hv : bootBuiltins x = some (.builtin id)) (ha : DA X (e :: es) t) (hn : x ≠ "__name__" := by decide) (hdb : (x == ("__debug__" : Str)) = false := by decide)
    (he : starEach (e :: es) X.env = (false, eval e X.env) :: starEach es X.env := by rfl) (hpl : (backTo pos (starEach es X.env)).any (·.1) = false := by rfl) : DE X (.Call (.Name x p) (e :: es) [] pos) (dCB r t) := (pe_callB hc hg hm hv ha hn hdb he hpl).imp fun _ _ _ h => up_cb h
theorem de_callTy (hc : DCall X (.type T) r) (hg : Gl X x) (hm : X.mg x = none) (hv : bootBuiltins x = some (.type T)) (ha : DA X (e :: es) t) (hn : x ≠ "__name__" := by decide) (hdb : (x == ("__debug__" : Str)) = false := by decide)
    (he : starEach (e :: es) X.env = (false, eval e X.env) :: starEach es X.env := by rfl) (hpl : (backTo pos (starEach es X.env)).any (·.1) = false := by rfl) : DE X (.Call (.Name x p) (e :: es) [] pos) (dCB r t) := (pe_callTy hc hg hm hv ha hn hdb he hpl).imp fun _ _ _ h => up_cb h
end
theorem repL_1 {K : PySem.W.Frag} {G : GH} {H : Hp} {d : D} {xs : List V} (h : RepL K G H [d] xs) : ∃ x, xs = [x] ∧ RepV K G H d x := by
  unfold RepL at h
  obtain ⟨x, r, rfl, h1, h2⟩ := h
  unfold RepL at h2
  subst h2
  exact ⟨x, rfl, h1⟩
theorem repL_2 {K : PySem.W.Frag} {G : GH} {H : Hp} {d e : D} {xs : List V} (h : RepL K G H [d, e] xs) : ∃ x y, xs = [x, y] ∧ RepV K G H d x ∧ RepV K G H e y := by
  unfold RepL at h
  obtain ⟨x, r, rfl, h1, h2⟩ := h
  obtain ⟨y, rfl, h3⟩ := repL_1 h2
  exact ⟨x, y, rfl, h1, h3⟩
@[simp] def arg1 (ds : List D) (P : D → Prop) : Prop := match ds with
  | [d] => P d
  | _ => False
@[simp] def arg2 (ds : List D) (P : D → D → Prop) : Prop := match ds with
  | [d, e] => P d e
  | _ => False
theorem arg1_of {ds : List D} {P : D → Prop} (h : arg1 ds P) : ∃ d, ds = [d] ∧ P d := by
  match ds, h with
  | [d], h => exact ⟨d, rfl, h⟩
theorem arg2_of {ds : List D} {P : D → D → Prop} (h : arg2 ds P) : ∃ d e, ds = [d, e] ∧ P d e := by
  match ds, h with
  | [d, e], h => exact ⟨d, e, rfl, h⟩
@[simp] def rLen : DRC := fun ds G Q => arg1 ds fun x => match x with
  | .str z => z.length ≤ sizeLine ∧ Q (.int z.length) G
  | .tup l => Q (.int l.length) G
  | .lst l => Q (.int l.length) G
  | .ref a => (match G a with
    | some (.lst l) => Q (.int l.length) G
    | some (.dct l) => Q (.int l.length) G
    | _ => False)
  | _ => False
@[simp] def rIntC : DRC := fun ds G Q => arg1 ds fun x => match x with
  | .int i => Q (.int i) G
  | .bl b => Q (.int (if b then 1 else 0)) G
  | _ => False
@[simp] def rMax2 : DRC := fun ds G Q => arg2 ds fun x y => match x with
  | .int i => (match y with
    | .int j => Q (.int (if j > i then j else i)) G
    | _ => False)
  | _ => False
@[simp] def rMin2 : DRC := fun ds G Q => arg2 ds fun x y => match x with
  | .int i => (match y with
    | .int j => Q (.int (if j < i then j else i)) G
    | _ => False)
  | _ => False
def intsD : List D → Option (List Int)
  | [] => some []
  | .int i :: r => (intsD r).map (i :: ·)
  | _ :: _ => none
theorem intsD_of : ∀ {ds : List D} {ns : List Int}, intsD ds = some ns → ds = ns.map D.int
  | [], ns, h => by simp [intsD] at h; subst h; rfl
  | .int i :: r, ns, h => by
    simp only [intsD, Option.map_eq_some_iff] at h
    obtain ⟨ms, h1, rfl⟩ := h
    rw [intsD_of h1]
    rfl
  | .non :: _, _, h => by simp [intsD] at h
  | .bl _ :: _, _, h => by simp [intsD] at h
  | .str _ :: _, _, h => by simp [intsD] at h
  | .byt _ :: _, _, h => by simp [intsD] at h
  | .tup _ :: _, _, h => by simp [intsD] at h
  | .lst _ :: _, _, h => by simp [intsD] at h
  | .ref _ :: _, _, h => by simp [intsD] at h
  | .scr _ :: _, _, h => by simp [intsD] at h
@[simp] def intsP (G : GH) (x : D) (P : List Int → Prop) : Prop := match lsOf G x with
  | some ds => (match intsD ds with
    | some ns => P ns
    | none => False)
  | none => False
theorem ints_of {K : PySem.W.Frag} {G : GH} {H : Hp} {x : D} {v : V} {P : List Int → Prop} (g : GOk K G H) (r : RepV K G H x v) (h : intsP G x P) : ∃ a ns, v = .ref a ∧ SqL K H a (ns.map V.int) ∧ P ns := by
  unfold intsP at h
  cases e : lsOf G x with
  | none => rw [e] at h; exact h.elim
  | some ds =>
    rw [e] at h
    dsimp only at h
    cases e2 : intsD ds with
    | none => rw [e2] at h; exact h.elim
    | some ns =>
      rw [e2] at h
      obtain ⟨a, xs, rfl, h1, rl⟩ := ls_at g r e
      rw [intsD_of e2] at rl
      have := repL_ints rl
      subst this
      exact ⟨a, ns, rfl, SqL.of h1, h⟩
@[simp] def rSumC : DRC := fun ds G Q => arg1 ds fun x => intsP G x fun ns => Q (.int ns.sum) G
@[simp] def rMaxC : DRC := fun ds G Q => arg1 ds fun x => intsP G x fun ns => 0 < ns.length ∧ ∀ m, m ∈ ns → (∀ y, y ∈ ns → y ≤ m) → Q (.int m) G
@[simp] def rMinC : DRC := fun ds G Q => arg1 ds fun x => intsP G x fun ns => 0 < ns.length ∧ ∀ m, m ∈ ns → (∀ y, y ∈ ns → m ≤ y) → Q (.int m) G
@[simp] def rTupC : DRC := fun ds G Q => arg1 ds fun x => match sqOf G x with
  | some l => Q (.tup l) G
  | none => False
@[simp] def rLstC : DRC := fun ds G Q => arg1 ds fun x => match sqOf G x with
  | some l => ∀ p, G p = none → Q (.ref p) (updG G p (.lst l))
  | none => False
section
variable {X : Cx}
theorem c_len : DCall X (.builtin "len") rLen := by
  intro pins s σ H xs us Q I r ⟨G, ds, q, g, rl, h0, k⟩
  obtain ⟨d, rfl, h⟩ := arg1_of h0
  obtain ⟨x, rfl, rx⟩ := repL_1 rl
  cases d with
  | str z => cases rv_str rx; exact call_len pins s σ H _ us Q I r ⟨_, z.length, rfl, ⟨h.1, rfl⟩, k _ _ H G (Ext.refl G H) g int_rv h.2⟩
  | tup l =>
    obtain ⟨a, ys, rfl, t, rl⟩ := tp_at rx
    exact call_len_seq pins s σ H _ us Q I r ⟨a, ys, rfl, .inr t, by rw [rl.length]; exact k _ _ H G (Ext.refl G H) g int_rv h⟩
  | lst l =>
    obtain ⟨a, ys, rfl, t, rl⟩ := ls_at g rx (ds := l) rfl
    exact call_len_seq pins s σ H _ us Q I r ⟨a, ys, rfl, .inl (SqL.of t), by rw [rl.length]; exact k _ _ H G (Ext.refl G H) g int_rv h⟩
  | ref a =>
    cases rv_ref rx
    dsimp only at h
    cases hg : G a with
    | none => rw [hg] at h; exact h.elim
    | some o =>
      rw [hg] at h
      cases o with
      | lst l =>
        obtain ⟨ys, h1, rl⟩ := g a _ hg
        exact call_len_seq pins s σ H _ us Q I r ⟨a, ys, rfl, .inl (SqL.of h1), by rw [rl.length]; exact k _ _ H G (Ext.refl G H) g int_rv h⟩
      | dct l =>
        obtain ⟨ws, h1, e1, rl⟩ := g a _ hg
        have hl : ws.length = l.length := by simpa using congrArg List.length e1
        refine call_lenD pins s σ H _ us Q I r ⟨a, ws, rfl, h1, ?_⟩
        rw [hl]
        exact k _ _ H G (Ext.refl G H) g int_rv h
      | raw _ => exact h.elim
  | _ => exact h.elim
theorem c_int : DCall X (.type "int") rIntC := by
  intro pins s σ H xs us Q I r ⟨G, ds, q, g, rl, h0, k⟩
  obtain ⟨d, rfl, h⟩ := arg1_of h0
  obtain ⟨x, rfl, rx⟩ := repL_1 rl
  cases d with
  | int i => cases rv_int rx; exact call_int1 pins s σ H _ us Q I r (.inl ⟨i, rfl, k _ _ H G (Ext.refl G H) g int_rv h⟩)
  | bl b => cases rv_bl rx; exact call_int1 pins s σ H _ us Q I r (.inr ⟨b, rfl, k _ _ H G (Ext.refl G H) g int_rv h⟩)
  | _ => exact h.elim
theorem c_max2 (hc : X.calm = true) : DCall X (.builtin "max") rMax2 := by
  intro pins s σ H xs us Q I r ⟨G, ds, q, g, rl, h0, k⟩
  obtain ⟨d, e, rfl, h⟩ := arg2_of h0
  obtain ⟨x, y, rfl, rx, ry⟩ := repL_2 rl
  cases d with
  | int i =>
    cases e with
    | int j => cases rv_int rx; cases rv_int ry; exact call_max2 hc pins s σ H _ us Q I r ⟨i, j, rfl, k _ _ H G (Ext.refl G H) g int_rv h⟩
    | _ => exact h.elim
  | _ => exact h.elim
theorem c_min2 (hc : X.calm = true) : DCall X (.builtin "min") rMin2 := by
  intro pins s σ H xs us Q I r ⟨G, ds, q, g, rl, h0, k⟩
  obtain ⟨d, e, rfl, h⟩ := arg2_of h0
  obtain ⟨x, y, rfl, rx, ry⟩ := repL_2 rl
  cases d with
  | int i =>
    cases e with
    | int j => cases rv_int rx; cases rv_int ry; exact call_min2 hc pins s σ H _ us Q I r ⟨i, j, rfl, k _ _ H G (Ext.refl G H) g int_rv h⟩
    | _ => exact h.elim
  | _ => exact h.elim
theorem c_sum (hc : X.calm = true) : DCall X (.builtin "sum") rSumC := by
  intro pins s σ H xs us Q I r ⟨G, ds, q, g, rl, h0, k⟩
  obtain ⟨d, rfl, h⟩ := arg1_of h0
  obtain ⟨x, rfl, rx⟩ := repL_1 rl
  obtain ⟨a, ns, rfl, hs, h⟩ := ints_of g rx h
  exact cr_sum hc pins s σ H _ us Q I r ⟨a, ns, rfl, hs, k _ _ H G (Ext.refl G H) g int_rv h⟩
theorem c_max (hc : X.calm = true) : DCall X (.builtin "max") rMaxC := by
  intro pins s σ H xs us Q I r ⟨G, ds, q, g, rl, h0, k⟩
  obtain ⟨d, rfl, h⟩ := arg1_of h0
  obtain ⟨x, rfl, rx⟩ := repL_1 rl
  obtain ⟨a, ns, rfl, hs, h⟩ := ints_of g rx h
  exact cr_max hc pins s σ H _ us Q I r ⟨a, ns, rfl, hs, h.1, fun m h1 h2 => k _ _ H G (Ext.refl G H) g int_rv (h.2 m h1 h2)⟩
theorem c_min (hc : X.calm = true) : DCall X (.builtin "min") rMinC := by
  intro pins s σ H xs us Q I r ⟨G, ds, q, g, rl, h0, k⟩
  obtain ⟨d, rfl, h⟩ := arg1_of h0
  obtain ⟨x, rfl, rx⟩ := repL_1 rl
  obtain ⟨a, ns, rfl, hs, h⟩ := ints_of g rx h
  exact cr_min hc pins s σ H _ us Q I r ⟨a, ns, rfl, hs, h.1, fun m h1 h2 => k _ _ H G (Ext.refl G H) g int_rv (h.2 m h1 h2)⟩
theorem c_tuple : DCall X (.type "tuple") rTupC := by
  intro pins s σ H xs us Q I r ⟨G, ds, q, g, rl, h0, k⟩
  obtain ⟨d, rfl, h⟩ := arg1_of h0
  obtain ⟨x, rfl, rx⟩ := repL_1 rl
  cases e : sqOf G d with
  | none => rw [e] at h; exact h.elim
  | some l =>
    rw [e] at h
    obtain ⟨a, ys, rfl, hs, rl⟩ := sq_at g rx e
    refine call_tuple_of pins s σ H _ us Q I r ⟨a, ys, rfl, ?_⟩
    rcases hs with hs | hs
    · refine .inl ⟨hs, fun p hp => ?_⟩
      obtain ⟨e1, g1, v1⟩ := new_tup g hp rl
      exact k _ _ _ _ e1 g1 v1 h
    · refine .inr ⟨hs, ?_⟩
      cases d with
      | tup l2 =>
        simp only [sqOf, Option.some.injEq] at e
        subst e
        exact k _ _ H G (Ext.refl G H) g rx h
      | lst l2 =>
        obtain ⟨a2, xs2, e2, h2, _⟩ := ls_at g rx (ds := l) e
        cases e2
        have z1 := (I.list (SqL.of h2))
        obtain ⟨its, _, ⟨o, n, ho, hc, _⟩, _⟩ := z1
        obtain ⟨its2, _, ⟨o2, ho2, hc2, _⟩, _⟩ := I.tuple hs
        rw [ho] at ho2
        cases ho2
        rw [hc] at hc2
        simp at hc2
      | ref a2 =>
        obtain ⟨a2, xs2, e2, h2, _⟩ := ls_at g rx (ds := l) e
        cases e2
        have z1 := (I.list (SqL.of h2))
        obtain ⟨its, _, ⟨o, n, ho, hc, _⟩, _⟩ := z1
        obtain ⟨its2, _, ⟨o2, ho2, hc2, _⟩, _⟩ := I.tuple hs
        rw [ho] at ho2
        cases ho2
        rw [hc] at hc2
        simp at hc2
      | _ => simp [sqOf] at e
theorem c_list : DCall X (.type "list") rLstC := by
  intro pins s σ H xs us Q I r ⟨G, ds, q, g, rl, h0, k⟩
  obtain ⟨d, rfl, h⟩ := arg1_of h0
  obtain ⟨x, rfl, rx⟩ := repL_1 rl
  cases e : sqOf G d with
  | none => rw [e] at h; exact h.elim
  | some l =>
    rw [e] at h
    obtain ⟨a, ys, rfl, hs, rl⟩ := sq_at g rx e
    refine call_list_of pins s σ H _ us Q I r ⟨a, ys, rfl, hs, fun p hp => ?_⟩
    obtain ⟨e1, g1, v1⟩ := new_lst g hp rl
    exact k _ _ _ _ e1 g1 v1 (h p (g.fresh hp))
end

section
open AutoSeq1
theorem ext_by_tuple (l : Addr) (items : Array Value) (n : Nat) (b : Addr) (more : Array Value) (n2 : Nat) (dd : Option Addr) (sl : Array (Option Value)) (hs0 : ¬(!items.isEmpty && Builtin.List.listTooLong (items.size + more.size)) = true) (hs1 : items.size ≤ sizeLine)
    (hs2 : items.size + more.size ≤ sizeLine + 1) :
    Meets (Builtin.«list.extend» ⟨[.ref l, .ref b], []⟩) (fun _ R s => s.heap.get? l = some { cls := .type "list", data := .seq items n } ∧ s.heap.get? b = some { cls := .type "tuple", dict := dd, data := .seq more n2, slots := sl } ∧
      R (.ok (.ret Value.none)) { s with heap := s.heap.update l (Obj.mapSeq fun x => x ++ more) }) :=
  .of_wp fun prog w A R st hh => by
    obtain ⟨hp, gg, dr, tk, os⟩ := st
    obtain ⟨hl, hb, hR⟩ := hh
    have f1 := idx_int
    have f2 := sub_tuple_tuple
    have f3 := sub_list_list
    have f4 := sub_tuple_list
    have f5 := sub_list_tuple
    have hz : (items ++ more).size ≤ sizeLine + 1 := by rw [Array.size_append]; exact hs2
    wp_walk using (wpAny_updateSeq hl rfl (hz := hs1) (_hz' := hz)), wpAny_loadPart' hl, wpAny_loadPart' hb
    exact ⟨_, rfl, hR⟩
end
abbrev DRM := D → List D → GH → DK → Prop
def upM (K : PySem.W.Frag) (r : DRM) : V → List V → Hp → VK → Prop := fun x xs H Qv => ∃ (G : GH) (d : D) (ds : List D) (Q : DK), GOk K G H ∧ RepV K G H d x ∧ RepL K G H ds xs ∧ r d ds G Q ∧ ∀ v d H' G', Ext G H G' H' → GOk K G' H' → RepV K G' H' d v → Q d G' → Qv v H'
@[simp] def dMt (r : DRM) (to : DTE) (t : DTA) : DTE := fun ρ G Q => to ρ G fun x G1 => lstP G1 x fun _ _ => t ρ G1 fun ds G2 => r x ds G2 Q
@[simp] def mAppend : DRM := fun x ds G Q => lstP G x fun a l => arg1 ds fun d => l.length < sizeLine ∧ Q .non (updG G a (.lst (l ++ [d])))
@[simp] def mExtend : DRM := fun x ds G Q => lstP G x fun a l => arg1 ds fun d => match sqOf G d with
  | some m => l.length + m.length ≤ sizeLine ∧ Q .non (updG G a (.lst (l ++ m)))
  | none => False
@[simp] def mPop : DRM := fun x ds G Q => lstP G x fun a l => match ds with
  | [] => (match l[l.length - 1]? with
    | some d => Q d (updG G a (.lst l.dropLast))
    | none => False)
  | _ => False
section
variable {X : Cx}
theorem m_append : MtR X "list.append" (upM X.K mAppend) := by
  intro pins s σ H x xs v us Q I rx rv ⟨G, d, ds, q, g, r1, r2, h, k⟩
  obtain ⟨a, l, ys, rfl, rfl, hg, h1, h2, rl⟩ := lst_of g r1 h
  obtain ⟨e, rfl, h3⟩ := arg1_of h1
  obtain ⟨y, rfl, ry⟩ := repL_1 r2
  refine mt_append pins s σ H _ _ v us Q I rx rv ⟨a, ys, y, rfl, rfl, h2, by rw [rl.length]; exact h3.1, ?_⟩
  obtain ⟨e1, g1⟩ := put_lst g hg (rl.append (repL_one ry))
  exact k _ _ _ _ e1 g1 non_rv h3.2
theorem m_pop : MtR X "list.pop" (upM X.K mPop) := by
  intro pins s σ H x xs v us Q I rx rv ⟨G, d, ds, q, g, r1, r2, h, k⟩
  obtain ⟨a, l, ys, rfl, rfl, hg, h1, h2, rl⟩ := lst_of g r1 h
  cases ds with
  | cons _ _ => exact h1.elim
  | nil =>
    unfold RepL at r2
    subst r2
    dsimp only at h1
    cases e : l[l.length - 1]? with
    | none => rw [e] at h1; exact h1.elim
    | some d =>
      rw [e] at h1
      obtain ⟨y, hy, ry⟩ := rl.get e
      refine mt_pop pins s σ H _ _ v us Q I rx rv ⟨a, ys, y, rfl, rfl, h2, by rw [rl.length]; exact hy, ?_⟩
      obtain ⟨e1, g1⟩ := put_lst g hg rl.dropLast
      exact k _ _ _ _ e1 g1 (ry.ext e1) h1
theorem m_extend : MtR X "list.extend" (upM X.K mExtend) := by
  intro pins s σ H x xs v us Q I rx rv ⟨G, d, ds, q, g, r1, r2, h, k⟩
  obtain ⟨a, l, ys, rfl, rfl, hg, h1, h2, rl⟩ := lst_of g r1 h
  obtain ⟨e, rfl, h3⟩ := arg1_of h1
  obtain ⟨y, rfl, ry⟩ := repL_1 r2
  cases e2 : sqOf G e with
  | none => rw [e2] at h3; exact h3.elim
  | some m =>
    rw [e2] at h3
    obtain ⟨b, zs, rfl, hs, rm⟩ := sq_at g ry e2
    obtain ⟨e1, g1⟩ := put_lst g hg (rl.append rm)
    have fin : Q .non (upd H a (.lst (ys ++ zs))) := k _ _ _ _ e1 g1 non_rv h3.2
    have hz : ys.length + zs.length ≤ sizeLine := by rw [rl.length, rm.length]; exact h3.1
    have hcase : (H b = some (.lst zs)) ∨ SqT X.K H b zs := by
      rcases hs with hs | hs
      · cases e with
        | tup l2 =>
          obtain ⟨a2, xs2, e3, h4, _⟩ := tp_at ry
          cases e3
          obtain ⟨its, _, ⟨o, n, ho, hc, _⟩, _⟩ := I.list hs
          obtain ⟨its2, _, ⟨o2, ho2, hc2, _⟩, _⟩ := I.tuple h4
          rw [ho] at ho2
          cases ho2
          rw [hc] at hc2
          simp at hc2
        | lst l2 =>
          obtain ⟨a2, xs2, e3, h4, _⟩ := ls_at g ry (ds := m) e2
          cases e3
          rw [I.list_inj hs (SqL.of h4)]
          exact .inl h4
        | ref l2 =>
          obtain ⟨a2, xs2, e3, h4, _⟩ := ls_at g ry (ds := m) e2
          cases e3
          rw [I.list_inj hs (SqL.of h4)]
          exact .inl h4
        | _ => simp [sqOf] at e2
      · exact .inr hs
    rcases hcase with hb | hb
    · exact mt_extend pins s σ H _ _ v us Q I rx rv ⟨a, b, ys, zs, rfl, rfl, h2, hb, hz, fin⟩
    · cases rx
      obtain ⟨u, rfl, ru⟩ := rv.one
      cases ru
      obtain ⟨z, its, n, r, hl, e⟩ := I.lstM h2
      obtain ⟨its2, r2', ⟨⟨cls, dd, data, sl⟩, ho, hcl, n2, hd⟩, hz2⟩ := I.tuple hb
      simp only at hcl hd
      subst hcl hd
      have hl2 := r2'.length
      have hsz : its.toArray.size + its2.toArray.size ≤ sizeLine := by rw [List.size_toArray, List.size_toArray]; omega
      have hlong : ¬ (!its.toArray.isEmpty && Builtin.List.listTooLong (its.toArray.size + its2.toArray.size)) = true := by
        rw [notLongL hsz, Bool.and_false]
        exact Bool.false_ne_true
      refine call_meets F.slot_list_extend ⟨_, e, rfl⟩ F.entry_list_extend (F.args_list_extend_2 _ _)
        (ext_by_tuple a its.toArray n b its2.toArray n2 dd sl hlong (by rw [List.size_toArray]; omega) (by omega)) ⟨e, ho, ?_⟩
      refine ⟨.non, _, I.lset (its' := its ++ its2) h2 e (by simp) (r.append r2') ?_, rfl, fin⟩
      rw [List.length_append]
      omega
variable {o e : Expr} {es : List Expr} {to : DTE} {t : DTA} {name : Str} {apos cpos : Pos} {id : String} {r : DRM}
theorem up_mt {K : PySem.W.Frag} {σ : St} {H : Hp} {Q : VK} (h : up K (dMt r to t) σ H Q) : tBM K "list" (upM K r) (up K to) (upA K t) σ H Q := by
  obtain ⟨ρ, G, q, r0, h, k⟩ := h
  refine ⟨ρ, G, _, r0, h, fun x dx H1 G1 e1 r1 v1 h1 => ?_⟩
  obtain ⟨a, l, ys, rfl, rfl, hg, h2, h3, rl⟩ := lst_of r1.gok v1 h1
  refine ⟨.inl ⟨rfl, ys, SqL.of h3⟩, ρ, G1, _, r1, h2, fun vs ds H2 G2 e2 r2 v2 h4 => ?_⟩
  exact ⟨G2, .ref a, ds, q, r2.gok, ref_rv, v2, h4, fun v d H' G' e3 g3 v3 h3 => k v d H' G' ((e1.trans e2).trans e3) (r2.ext e3 g3) v3 h3⟩
theorem de_mt (slot : Slot "list" name id) (hty : typeOf (.builtin id) = pure (.type "method_descriptor")) (hm : MtR X id (upM X.K r)) (ho : DE X o to) (ha : DA X (e :: es) t)
    (hbase : attributeBase o name X.env (eval o X.env) = eval o X.env := by rfl)
    (hfew : ((backTo cpos (starEach (e :: es) X.env)).all (fun x => !x.1) && (backToKw cpos (keywordEach [] X.env)).all (fun x => x.1.isSome)
      && decide ((e :: es).length + ([] : List Keyword).length + (if ([] : List Keyword).isEmpty then 0 else 1) < 30)) = true := by rfl)
    (hline : (apos.endLine == cpos.line) = true := by rfl) (hs : starEach (e :: es) X.env = (false, eval e X.env) :: starEach es X.env := by rfl) (hplain : (backTo cpos (starEach es X.env)).any (·.1) = false := by rfl) :
    DE X (.Call (.Attribute o name apos) (e :: es) [] cpos) (dMt r to t) := (pe_bm F.plainAttrs_list slot hty hm ho ha hbase hfew hline hs hplain).imp fun _ _ _ h => up_mt h
theorem de_mt0 (slot : Slot "list" name id) (hty : typeOf (.builtin id) = pure (.type "method_descriptor")) (hm : MtR X id (upM X.K r)) (ho : DE X o to)
    (hbase : attributeBase o name X.env (eval o X.env) = eval o X.env := by rfl) (hline : (apos.endLine == cpos.line) = true := by rfl) : DE X (.Call (.Attribute o name apos) [] [] cpos) (dMt r to dNil) :=
  (pe_bm0 F.plainAttrs_list slot hty hm ho hbase hline).imp fun σ H Q ⟨ρ, G, q, r0, h, k⟩ => by
    refine ⟨ρ, G, _, r0, h, fun x dx H1 G1 e1 r1 v1 h1 => ?_⟩
    obtain ⟨a, l, ys, rfl, rfl, hg, h2, h3, rl⟩ := lst_of r1.gok v1 h1
    refine ⟨.inl ⟨rfl, ys, SqL.of h3⟩, ?_⟩
    exact ⟨G1, .ref a, [], q, r1.gok, ref_rv, repL_nil, h2, fun v d H' G' e3 g3 v3 h3 => k v d H' G' (e1.trans e3) (r1.ext e3 g3) v3 h3⟩
theorem de_append {x : Expr} {tx : DTE} (ho : DE X o to) (ha : DE X x tx)
    (hbase : attributeBase o "append" X.env (eval o X.env) = eval o X.env := by rfl)
    (hfew : ((backTo cpos (starEach [x] X.env)).all (fun x => !x.1) && (backToKw cpos (keywordEach [] X.env)).all (fun x => x.1.isSome)
      && decide ([x].length + ([] : List Keyword).length + (if ([] : List Keyword).isEmpty then 0 else 1) < 30)) = true := by rfl)
    (hline : (apos.endLine == cpos.line) = true := by rfl) (hs : starEach [x] X.env = (false, eval x X.env) :: starEach [] X.env := by rfl) (hplain : (backTo cpos (starEach [] X.env)).any (·.1) = false := by rfl) :
    DE X (.Call (.Attribute o "append" apos) [x] [] cpos) (dMt mAppend to (dCons tx dNil)) := de_mt F.slot_list_append F.type_list_append m_append ho (da_cons ha da_nil hs) hbase hfew hline hs hplain
theorem de_extend {x : Expr} {tx : DTE} (ho : DE X o to) (ha : DE X x tx)
    (hbase : attributeBase o "extend" X.env (eval o X.env) = eval o X.env := by rfl)
    (hfew : ((backTo cpos (starEach [x] X.env)).all (fun x => !x.1) && (backToKw cpos (keywordEach [] X.env)).all (fun x => x.1.isSome)
      && decide ([x].length + ([] : List Keyword).length + (if ([] : List Keyword).isEmpty then 0 else 1) < 30)) = true := by rfl)
    (hline : (apos.endLine == cpos.line) = true := by rfl) (hs : starEach [x] X.env = (false, eval x X.env) :: starEach [] X.env := by rfl) (hplain : (backTo cpos (starEach [] X.env)).any (·.1) = false := by rfl) :
    DE X (.Call (.Attribute o "extend" apos) [x] [] cpos) (dMt mExtend to (dCons tx dNil)) := de_mt F.slot_list_extend F.type_list_extend m_extend ho (da_cons ha da_nil hs) hbase hfew hline hs hplain
theorem de_pop (ho : DE X o to)
    (hbase : attributeBase o "pop" X.env (eval o X.env) = eval o X.env := by rfl) (hline : (apos.endLine == cpos.line) = true := by rfl) : DE X (.Call (.Attribute o "pop" apos) [] [] cpos) (dMt mPop to dNil) :=
  de_mt0 F.slot_list_pop F.type_list_pop m_pop ho hbase hline
end
end Dl

namespace Dl
open PySem L2

@[simp] def dStar (te : DTE) (tr : DTA) : DTA := fun ρ G Q => te ρ G fun x G1 => match sqOf G1 x with
  | some ds => tr ρ G1 fun xs G2 => Q (ds ++ xs) G2
  | none => False
section
variable {X : Cx}
theorem da_star {e : Expr} {es : List Expr} {te : DTE} {t : DTA} {p : Pos} (he : DE X e te) (hr : DA X es t) (hs : starEach (.Starred e p :: es) X.env = (true, eval e X.env) :: starEach es X.env := by rfl) : DA X (.Starred e p :: es) (dStar te t) := by
  refine (StX.pa_star he hr hs).imp fun σ H Q ⟨ρ, G, q, r, h, k⟩ => ?_
  refine ⟨ρ, G, _, r, h, fun v d H1 G1 e1 r1 v1 h1 => ?_⟩
  cases e2 : sqOf G1 d with
  | none => rw [e2] at h1; exact h1.elim
  | some ds =>
    rw [e2] at h1
    obtain ⟨a, xs, rfl, hs, rl⟩ := sq_at r1.gok v1 e2
    refine ⟨a, xs, rfl, hs.symm, ρ, G1, _, r1, h1, fun vs es H2 G2 e3 r2 v2 h2 => ?_⟩
    exact k _ _ H2 G2 (e1.trans e3) r2 ((rl.ext e3).append v2) h2

end
@[simp] def truP (G : GH) (d : D) (P : Bool → Prop) : Prop := match d with
  | .non => P false
  | .bl b => P b
  | .int i => P (i != 0)
  | .str x => x.length ≤ sizeLine ∧ P ((x.length : Int) != 0)
  | .tup l => P (!l.isEmpty)
  | .lst l => P (!l.isEmpty)
  | .ref a => (match G a with
    | some (.lst l) => P (!l.isEmpty)
    | some (.dct l) => P (!l.isEmpty)
    | _ => False)
  | _ => False
@[simp] def dTru (te : DTE) : DTT := fun ρ G Q => te ρ G fun d G1 => truP G1 d fun b => Q b G1
theorem isEmpty_len {α β : Type} {xs : List α} {ys : List β} (h : xs.length = ys.length) : xs.isEmpty = ys.isEmpty := by
  cases xs <;> cases ys <;> simp_all
theorem tru_of {K : PySem.W.Frag} {G : GH} {H : Hp} {d : D} {v : V} {P : Bool → Prop} (g : GOk K G H) (r : RepV K G H d v) (h : truP G d P) : ∃ b, TruV K v H b ∧ P b := by
  cases d with
  | non => cases rv_non r; exact ⟨false, rfl, h⟩
  | bl b => cases rv_bl r; exact ⟨b, rfl, h⟩
  | int i => cases rv_int r; exact ⟨_, rfl, h⟩
  | str x => cases rv_str r; exact ⟨_, ⟨h.1, rfl⟩, h.2⟩
  | tup l =>
    obtain ⟨a, xs, rfl, t, rl⟩ := tp_at r
    exact ⟨_, .inr (.inl ⟨xs, t, rfl⟩), by rw [isEmpty_len rl.length]; exact h⟩
  | lst l =>
    obtain ⟨a, xs, rfl, t, rl⟩ := ls_at g r (ds := l) rfl
    exact ⟨_, .inl ⟨xs, SqL.of t, rfl⟩, by rw [isEmpty_len rl.length]; exact h⟩
  | ref a =>
    cases rv_ref r
    dsimp only [truP] at h
    cases hg : G a with
    | none => rw [hg] at h; exact h.elim
    | some o =>
      rw [hg] at h
      cases o with
      | lst l =>
        obtain ⟨xs, h1, rl⟩ := g a _ hg
        exact ⟨_, .inl ⟨xs, SqL.of h1, rfl⟩, by rw [isEmpty_len rl.length]; exact h⟩
      | dct l =>
        obtain ⟨ws, h1, e1, rl⟩ := g a _ hg
        have hl : ws.length = l.length := by simpa using congrArg List.length e1
        exact ⟨_, .inr (.inr ⟨ws, h1, rfl⟩), by rw [isEmpty_len hl]; exact h⟩
      | raw _ => exact h.elim
  | _ => exact h.elim
section
variable {X : Cx}
theorem dt_tru {e : Expr} {te : DTE} (h : DE X e te) (he : ∀ whole, isTrue e X.env whole = (do let v ← whole; standAt e.pos; holding [v] (truthy v)) := by intro _; rfl) : DT X e (dTru te) := by
  refine (pt_truth h he).imp fun σ H Q ⟨ρ, G, q, r, h, k⟩ => ?_
  refine ⟨ρ, G, _, r, h, fun v d H1 G1 e1 r1 v1 h1 => ?_⟩
  obtain ⟨b, hb, h2⟩ := tru_of r1.gok v1 h1
  exact ⟨b, hb, k b H1 G1 e1 r1 h2⟩

end
@[simp] def tyD (G : GH) : D → Option String
  | .non => some "NoneType"
  | .bl _ => some "bool"
  | .int _ => some "int"
  | .str _ => some "str"
  | .byt _ => some "bytes"
  | .tup _ => some "tuple"
  | .lst _ => some "list"
  | .ref a => (match G a with
    | some (.lst _) => some "list"
    | some (.dct _) => some "dict"
    | _ => none)
  | .scr _ => none
@[simp] def subT (a b : String) : Bool := (a == b) || (a == "bool" && b == "int")
@[simp] def dIsi (T : String) (te : DTE) : DTE := fun ρ G Q => te ρ G fun d G1 => match tyD G1 d with
  | some t => Q (.bl (subT t T)) G1
  | none => False
def isiTypes : List String := ["NoneType", "bool", "int", "str", "bytes", "tuple", "list", "dict"]
theorem isi_tab : ∀ a ∈ isiTypes, ∀ b ∈ ["int", "bool", "str", "tuple", "list"], kitB a b = some (subT a b) := by decide +kernel
theorem ty_of {K : PySem.W.Frag} {G : GH} {H : Hp} {d : D} {v : V} {t : String} (g : GOk K G H) (r : RepV K G H d v) (h : tyD G d = some t) : TyX K H v (.type t) ∧ t ∈ isiTypes := by
  cases d with
  | non => cases rv_non r; simp only [tyD, Option.some.injEq] at h; subst h; exact ⟨.base .non, by decide⟩
  | bl b => cases rv_bl r; simp only [tyD, Option.some.injEq] at h; subst h; exact ⟨.base (.bl b), by decide⟩
  | int b => cases rv_int r; simp only [tyD, Option.some.injEq] at h; subst h; exact ⟨.base (.int b), by decide⟩
  | str b => cases rv_str r; simp only [tyD, Option.some.injEq] at h; subst h; exact ⟨.base (.str b), by decide⟩
  | byt b => unfold RepV at r; subst r; simp only [tyD, Option.some.injEq] at h; subst h; exact ⟨.byt b, by decide⟩
  | tup l =>
    unfold RepV at r
    obtain ⟨a, xs, rfl, t, rl⟩ := r
    simp only [tyD, Option.some.injEq] at h
    subst h
    refine ⟨?_, by decide⟩
    rcases t with ⟨_, t | ⟨o, t⟩⟩ | ⟨o, its, n, hk, hc, _⟩
    · exact .base (.tup t)
    · exact .fTuple t
    · exact .kTuple hk hc
  | lst l =>
    unfold RepV at r
    obtain ⟨a, xs, rfl, t, rl⟩ := r
    simp only [tyD, Option.some.injEq] at h
    subst h
    exact ⟨.base (.lst t.2), by decide⟩
  | ref a =>
    cases rv_ref r
    dsimp only [tyD] at h
    cases hg : G a with
    | none => rw [hg] at h; cases h
    | some o =>
      rw [hg] at h
      cases o with
      | lst l =>
        obtain ⟨xs, h1, rl⟩ := g a _ hg
        simp only [Option.some.injEq] at h
        subst h
        exact ⟨.base (.lst h1), by decide⟩
      | dct l =>
        obtain ⟨ws, h1, _⟩ := g a _ hg
        simp only [Option.some.injEq] at h
        subst h
        exact ⟨.base (.dK h1), by decide⟩
      | raw _ => cases h
  | scr _ => simp [tyD] at h
section
variable {X : Cx}
theorem de_isi {e : Expr} {te : DTE} {T : String} {Tn : Str} {p pT pos : Pos} (hT : T ∈ ["int", "bool", "str", "tuple", "list"]) (hg : Gl X "isinstance") (hm : X.mg "isinstance" = none) (hgT : Gl X Tn) (hmT : X.mg Tn = none) (hbT : bootBuiltins Tn = some (.type T)) (he : DE X e te)
    (hs : starEach [e, .Name Tn pT] X.env = (false, eval e X.env) :: starEach [.Name Tn pT] X.env := by rfl) (hs2 : starEach [.Name Tn pT] X.env = (false, eval (.Name Tn pT) X.env) :: starEach [] X.env := by rfl) (hpl : (backTo pos (starEach [.Name Tn pT] X.env)).any (·.1) = false := by rfl)
    (hn : Tn ≠ "__name__" := by decide) (hd : (Tn == ("__debug__" : Str)) = false := by decide) :
    DE X (.Call (.Name "isinstance" p) [e, .Name Tn pT] [] pos) (dIsi T te) := by
  refine (pe_callB call_isi hg hm PyProof.Rows.boot_isinstance (pa_cons he (pa_cons (pe_bltn (v := .ty T) hgT hmT hbT rfl hn hd) pa_nil hs2) hs) (he := hs) (hpl := hpl)).imp fun σ H Q ⟨ρ, G, q, r, h, k⟩ => ?_
  refine ⟨ρ, G, _, r, h, fun v d H1 G1 e1 r1 v1 h1 => ?_⟩
  cases e2 : tyD G1 d with
  | none => rw [e2] at h1; exact h1.elim
  | some t =>
    rw [e2] at h1
    obtain ⟨ty, tm⟩ := ty_of r1.gok v1 e2
    exact ⟨v, .ty T, .type t, .type T, subT t T, rfl, .ty T, ty, kit_ty (isi_tab t tm T hT), k _ _ H1 G1 e1 r1 bl_rv h1⟩

end
mutual
/-- ints of few digits -/
def fewD : D → Bool
  | .int i => decide (i.natAbs.log2 < 1920)
  | .tup ds => fewDs ds
  | .lst ds => fewDs ds
  | _ => true
def fewDs : List D → Bool
  | [] => true
  | d :: ds => fewD d && fewDs ds
end
mutual
theorem show_py : ∀ d : D, fewD d = true → (pyD d).showable = true
  | .non, _ => by simp [pyD, PyData.showable]
  | .bl _, _ => by simp [pyD, PyData.showable]
  | .int i, h => by simpa [pyD, PyData.showable, fewD] using h
  | .str x, _ => by simp [pyD, PyData.showable]
  | .tup ds, h => by simpa [pyD, PyData.showable] using shows_py ds (by simpa [fewD] using h)
  | .lst ds, h => by simpa [pyD, PyData.showable] using shows_py ds (by simpa [fewD] using h)
  | .byt _, h => by simp [pyD, PyData.showable]
  | .ref _, h => by simp [pyD, PyData.showable]
  | .scr _, h => by simp [pyD, PyData.showable]
theorem shows_py : ∀ ds : List D, fewDs ds = true → PyData.showableAll (pyDs ds) = true
  | [], _ => by simp [pyDs, PyData.showableAll]
  | d :: ds, h => by
    simp only [fewDs, Bool.and_eq_true] at h
    simp [pyDs, PyData.showableAll, show_py d h.1, shows_py ds h.2]
end
def shD (d : D) : Str := (pyD d).shown
def isSeqD : D → Bool
  | .tup _ => true
  | .lst _ => true
  | _ => false
structure Shw (d : D) : Prop where
  sq : isSeqD d = true
  ok : okD d
  few : fewD d = true
  len : (shD d).length ≤ sizeLine
@[simp] def rRepr : DRC := fun ds G Q => arg1 ds fun x => Shw (vw G x) ∧ Q (.str (shD (vw G x))) G
section
variable {X : Cx}
theorem c_repr (hgd : X.A.guards = some []) (hu : X.A.units + 70 < cLine) : DCall X (.builtin "repr") rRepr := by
  intro pins s σ H xs us Q I r ⟨G, ds, q, g, rl, h0, k⟩
  obtain ⟨d, rfl, hS, h⟩ := arg1_of h0
  obtain ⟨x, rfl, rx⟩ := repL_1 rl
  obtain ⟨u, rfl, ru⟩ := vals1 r
  have dp := vw_dp g rx hS.ok.1
  obtain ⟨as, rd⟩ := Dp.reads I _ x u dp ru
  obtain ⟨a, rfl⟩ : ∃ a, u = Value.ref a := by
    have hs := hS.sq
    cases e : vw G d with
    | tup l =>
      rw [e] at rd
      simp only [pyD] at rd
      cases rd
      exact ⟨_, rfl⟩
    | lst l =>
      rw [e] at rd
      simp only [pyD] at rd
      cases rd
      exact ⟨_, rfl⟩
    | _ => rw [e] at hs; simp [isSeqD] at hs
  have hnd := PyData.hasDict_of_canLay _ (lay_py _ hS.ok.1)
  have hdep : (pyD (vw G d)).depth ≤ 64 := by rw [depth_py]; exact hS.ok.2
  refine repr_of_reads' rd (show_py _ hS.few) (PyData.noDict_hsm hnd) hgd (by omega) (fun _ _ e => e) (fun h' u' tk hk => ?_) hS.len
  exact ⟨.str _, H, I.kept hk, ⟨_, rfl⟩, k _ _ H G (Ext.refl G H) g str_rv h⟩

end
@[simp] def dPairs : List (DTE × DTE) → DSt → GH → (List (D × D) → GH → Prop) → Prop
  | [], _, G, Q => Q [] G
  | (tk, tv) :: r, ρ, G, Q => tk ρ G fun x G1 => tv ρ G1 fun y G2 => dPairs r ρ G2 fun ps G3 => Q ((x, y) :: ps) G3
def keysD : List (D × D) → Option (List (Key × D))
  | [] => some []
  | p :: r => (match keyD p.1 with
    | some k => (keysD r).map ((k, p.2) :: ·)
    | none => none)
def mergeD (kvs : List (Key × D)) : List (Key × D) → List (Key × D)
  | [] => kvs
  | p :: r => mergeD (putD kvs p.1 p.2) r
@[simp] def dDisp (trs : List (DTE × DTE)) : DTE := fun ρ G Q => ∀ p, G p = none → dPairs trs ρ (updG G p (.dct [])) fun ps G2 => G2 p = some (.dct []) ∧ match keysD ps with
  | some kvs => kvs.length ≤ 15 ∧ Q (.ref p) (updG G2 p (.dct (mergeD [] kvs)))
  | none => False
def upTrs (K : PySem.W.Frag) (trs : List (DTE × DTE)) : List (TE × TE) := trs.map fun p => (up K p.1, up K p.2)
inductive RepP (K : PySem.W.Frag) (G : GH) (H : Hp) : List (D × D) → List (V × V) → Prop
  | nil : RepP K G H [] []
  | cons {d e : D} {x y : V} {ps : List (D × D)} {qs : List (V × V)} : RepV K G H d x → RepV K G H e y → RepP K G H ps qs → RepP K G H ((d, e) :: ps) ((x, y) :: qs)
theorem RepP.ext {K : PySem.W.Frag} {G G' : GH} {H H' : Hp} (e : Ext G H G' H') : ∀ {ps : List (D × D)} {qs : List (V × V)}, RepP K G H ps qs → RepP K G' H' ps qs
  | _, _, .nil => .nil
  | _, _, .cons a b c => .cons (a.ext e) (b.ext e) (RepP.ext e c)
theorem pairs_up {K : PySem.W.Frag} : ∀ {trs : List (DTE × DTE)} {σ : St} {H : Hp} {ρ : DSt} {G : GH} {Q : List (D × D) → GH → Prop} {Qv : List (V × V) → Hp → Prop}, DRel K σ H ρ G → dPairs trs ρ G Q →
    (∀ qs ps H' G', Ext G H G' H' → DRel K σ H' ρ G' → RepP K G' H' ps qs → Q ps G' → Qv qs H') → tPairs (upTrs K trs) σ H Qv
  | [], σ, H, ρ, G, Q, Qv, r, h, k => k [] [] H G (Ext.refl G H) r .nil h
  | (tk, tv) :: trs, σ, H, ρ, G, Q, Qv, r, h, k => by
    refine ⟨ρ, G, _, r, h, fun x dx H1 G1 e1 r1 v1 h1 => ?_⟩
    refine ⟨ρ, G1, _, r1, h1, fun y dy H2 G2 e2 r2 v2 h2 => ?_⟩
    refine pairs_up r2 h2 fun qs ps H3 G3 e3 r3 v3 h3 => ?_
    exact k _ _ H3 G3 ((e1.trans e2).trans e3) r3 (.cons (v1.ext (e2.trans e3)) (v2.ext e3) v3) h3
theorem keys_rep {K : PySem.W.Frag} {G : GH} {H : Hp} : ∀ {ps : List (D × D)} {qs : List (V × V)} {kvs : List (Key × D)}, RepP K G H ps qs → keysD ps = some kvs → ∃ ws : List (Key × V), qs = ws.map (fun kv => (kV kv.1, kv.2)) ∧ ws.map (·.1) = kvs.map (·.1) ∧ RepL K G H (kvs.map (·.2)) (ws.map (·.2))
  | _, _, kvs, .nil, h => by
    simp only [keysD, Option.some.injEq] at h
    subst h
    exact ⟨[], rfl, rfl, repL_nil⟩
  | _, _, kvs, .cons (d := d) (e := e) (x := x) (y := y) a b c, h => by
    unfold keysD at h
    cases hk : keyD d with
    | none => simp only [hk] at h; cases h
    | some k =>
      simp only [hk, Option.map_eq_some_iff] at h
      obtain ⟨ks, h1, rfl⟩ := h
      obtain ⟨ws, e1, e2, e3⟩ := keys_rep c h1
      refine ⟨(k, y) :: ws, ?_, ?_, ?_⟩
      · rw [key_rep a hk, e1]; rfl
      · simp [e2]
      · exact repL_cons b e3
theorem merge_rep {K : PySem.W.Frag} {G : GH} {H : Hp} : ∀ {kvs : List (Key × D)} {ws : List (Key × V)} {acc : List (Key × D)} {bcc : List (Key × V)}, ws.map (·.1) = kvs.map (·.1) → RepL K G H (kvs.map (·.2)) (ws.map (·.2)) → bcc.map (·.1) = acc.map (·.1) → RepL K G H (acc.map (·.2)) (bcc.map (·.2)) →
    (mergeK bcc ws).map (·.1) = (mergeD acc kvs).map (·.1) ∧ RepL K G H ((mergeD acc kvs).map (·.2)) ((mergeK bcc ws).map (·.2))
  | [], [], _, _, _, _, e, r => ⟨e, r⟩
  | [], _ :: _, _, _, e, _, _, _ => by simp at e
  | _ :: _, [], _, _, e, _, _, _ => by simp at e
  | p :: kvs, q :: ws, acc, bcc, e, r, e2, r2 => by
    simp only [List.map_cons, List.cons.injEq] at e
    simp only [List.map_cons] at r
    unfold RepL at r
    obtain ⟨x, t, e3, h1, h2⟩ := r
    simp only [List.cons.injEq] at e3
    obtain ⟨e4, e5⟩ := e3
    subst e4
    rw [← e5] at h2
    obtain ⟨i1, i2⟩ := putD_rep (k := p.1) h1 e2 r2
    have := merge_rep (acc := putD acc p.1 p.2) (bcc := putK bcc p.1 q.2) e.2 h2 i1 i2
    unfold mergeD
    show (mergeK (putK bcc q.1 q.2) ws).map _ = _ ∧ RepL K G H _ ((mergeK (putK bcc q.1 q.2) ws).map _)
    rw [e.1]
    exact this
section
variable {X : Cx}
abbrev DPs (X : Cx) (pos : Pos) (keys : List (Option Expr)) (values : List Expr) (trs : List (DTE × DTE)) : Prop := PPs X pos keys values (upTrs X.K trs)
theorem dps_nil {pos : Pos} : DPs X pos [] [] [] := pps_nil
theorem dps_cons {pos : Pos} {k v : Expr} {ks : List (Option Expr)} {vs : List Expr} {tk tv : DTE} {trs : List (DTE × DTE)} (hk : DE X k tk) (hv : DE X v tv) (hr : DPs X pos ks vs trs) : DPs X pos (some k :: ks) (v :: vs) ((tk, tv) :: trs) := pps_cons hk hv hr
theorem de_disp {pos : Pos} {keys : List (Option Expr)} {values : List Expr} {trs : List (DTE × DTE)} (h : DPs X pos keys values trs) (hall : keys.all (·.isSome) = true := by rfl) (hl : keys.length = values.length := by rfl) (h0 : keys ≠ [] := by exact List.cons_ne_nil _ _)
    (h15 : keys.length ≤ 15 := by decide) : DE X (.Dict keys values pos) (dDisp trs) := by
  refine (pe_disp h hall hl h0 h15).imp fun σ H Q ⟨ρ, G, q, r, h, k⟩ => fun p hp => ?_
  have e1 : Ext G H (updG G p (.dct [])) (upd H p (.dK [])) := Ext.newG hp
  have g1 : GOk X.K (updG G p (.dct [])) (upd H p (.dK [])) := r.gok.put e1 ⟨[], upd_same, rfl, repL_nil⟩
  refine pairs_up (r.ext e1 g1) (h p (r.gok.fresh hp)) fun qs ps H2 G2 e2 r2 v2 h2 => ?_
  obtain ⟨h3, h4⟩ := h2
  obtain ⟨ws, w1, w2, _⟩ := r2.gok p _ h3
  have ews : ws = [] := by simpa using w2
  subst ews
  refine ⟨w1, ?_⟩
  cases hk : keysD ps with
  | none => rw [hk] at h4; exact h4.elim
  | some kvs =>
    rw [hk] at h4
    obtain ⟨zs, z1, z2, z3⟩ := keys_rep v2 hk
    have hlen : zs.length = kvs.length := by simpa using congrArg List.length z2
    obtain ⟨m1, m2⟩ := merge_rep (acc := []) (bcc := []) z2 z3 rfl repL_nil
    have e3 : Ext G2 H2 (updG G2 p (.dct (mergeD [] kvs))) (upd H2 p (.dK (mergeK [] zs))) := Ext.write h3
    refine ⟨zs, z1, by rw [hlen]; exact h4.1, k _ _ _ _ ((e1.trans e2).trans e3) (r2.ext e3 (r2.gok.put e3 ⟨_, upd_same, m1, m2.ext e3⟩)) ref_rv h4.2⟩

end
section
variable {X : Cx} {k : Nat} {f : Addr} {fd : FuncData} {ps ks : List Str} {sp : DSp} {x : Str} {p pos : Pos} {kws : List Keyword} {tk : DTA} {nm : Option Str} {kpos : Pos} {e : Expr} {te : DTE}
theorem _root_.L2.PK.imp {t t' : TA} (h : PK X kws t) (i : ∀ σ H Q, t' σ H Q → t σ H Q) : PK X kws t' := ⟨fun pos pins s σ H Q I q => h.run pos pins s σ H Q I (i σ H Q q)⟩
abbrev DKw (X : Cx) (kws : List Keyword) (t : DTA) : Prop := PK X kws (upA X.K t)
theorem dk_nil : DKw X [] dNil := (pk_nil (X := X)).imp fun σ H Q ⟨ρ, G, q, r, h, k⟩ => k [] [] H G (Ext.refl G H) r repL_nil h
theorem dk_cons (he : DE X e te) (hr : DKw X kws tk) : DKw X (⟨nm, e, kpos⟩ :: kws) (dCons te tk) := by
  refine (pk_cons he hr).imp fun σ H Q ⟨ρ, G, q, r, h, k⟩ => ?_
  refine ⟨ρ, G, _, r, h, fun v d H1 G1 e1 r1 v1 h1 => ?_⟩
  refine ⟨ρ, G1, _, r1, h1, fun vs ds H2 G2 e2 r2 v2 h2 => ?_⟩
  exact k (v :: vs) (d :: ds) H2 G2 (e1.trans e2) r2 (repL_cons (v1.ext e2) v2) h2
@[simp] def dCallK (sp : DSp) (g : List D → List D) (tk : DTA) : DTE := fun ρ G Q => tk ρ G fun ds G1 => sp (g ds) G1 Q noX
structure KwB (K : PySem.W.Frag) (fd : FuncData) (ps ks : List Str) (g : {α : Type} → List α → List α) : Prop where
  to : ∀ (s : Shared) (ws : List Value), (g ws).length = ps.length → BindsTo s fd ⟨[], ks.zip ws⟩ (ps.zip (g ws))
  vals : ∀ {xs : List V} {us : List Value}, Vals xs us → Vals (g xs) (g us)
  reps : ∀ {G : GH} {H : Hp} {ds : List D} {xs : List V}, RepL K G H ds xs → RepL K G H (g ds) (g xs)
theorem de_callK {g : {α : Type} → List α → List α} (F : DFn X.prog X.w X.K X.mg X.base k f fd ps sp) (hr : Room k X.A) (hgd : X.A.guards = some []) (hg : Gl X x) (hm : X.mg x = some (.ref f)) (hk : PySem.W.keepIn X.K (.ref f) = true) (hb : KwB X.K fd ps ks g)
    (hkw : DKw X kws tk) (hall : (backToKw pos (keywordEach kws X.env)).all (·.1.isSome) = true := by rfl) (hks : (backToKw pos (keywordEach kws X.env)).filterMap (·.1) = ks := by rfl)
    (hdb : (x == ("__debug__" : Str)) = false := by decide) (hpl : ((backTo pos (starEach [] X.env)).any (·.1) || (backToKw pos (keywordEach kws X.env)).any (·.1.isNone)) = false := by rfl) : DE X (.Call (.Name x p) [] kws pos) (dCallK sp g tk) := by
  constructor
  intro pins s σ H Q I h
  obtain ⟨ρ, G, q, r, h, kk⟩ := h
  refine wpAny_Call_Name_kw (ld_glob I hg hm ?_ hdb)
  refine PySem.W.callWith_KW0 (h₀ := X.base) I.ok.mod.kin hk hall ?_ hpl
  refine thn (hkw.run pos pins s σ H (fun zs H1 => toSp X.K sp (g zs) H1 Q E0) I ⟨ρ, G, _, r, h, fun vs ds H1 G1 e1 r1 v1 h1 => ?_⟩) ?_
  · exact sp_at r1 (hb.reps v1) h1 fun v d H' G' e2 r2 v2 h2 => kk v d H' G' (e1.trans e2) r2 v2 h2
  · rintro us s1 ⟨zs, H1, I1, rz, q1⟩
    refine ⟨I1.kIn, ?_⟩
    rw [hks]
    have al : (g us).length = ps.length := (hb.vals rz).length.symm.trans (F.arity _ _ _ _ q1)
    refine wpAny_call (codeAny_mono (F.go X.A X.stack s1 H1 ⟨[], ks.zip us⟩ _ _ Q E0 hr hgd I1.env0 (hb.to s1 us al) (hb.vals rz) q1) ?_)
    intro res s2 hq
    match res, hq with
    | .error er, hq => exact hq.elim
    | .ok (.ret u), hq => exact I1.after hq
end

def PMs (X : Cx) (cs : List MatchCase) (t : V → TS) : Prop := ∀ (first : Bool) (pins : List (Addr × Obj)) (s : Shared) (σ : St) (H : Hp) (E : Ends) (v : V) (u : Value), Inv X pins σ H s → RelV v u → t v E σ H →
  wpAny (model X.prog X.w) X.A (matchCases cs X.env u first) (SP X pins E) X.xe s
section
variable {X : Cx}
theorem pms_any {body : List Stmt} {rest : List MatchCase} {tb : TS} {pos : Pos} (hb : PSs X body tb) : PMs X (⟨.MatchAs none none pos, none, body⟩ :: rest) (fun _ => tb) := fun first pins s σ H E v u I rv h =>
  wpAny_matchCases_cons (wpAny_matchPattern_Capture (PyProof.Rows.assignInOrder_nil (hb.run pins s σ H E I h)))
theorem pms_val {c : Str} {j : Nat} {p1 p2 : Pos} {body : List Stmt} {rest : List MatchCase} {tb : TS} {tr : V → TS} (hb : PSs X body tb) (hr : PMs X rest tr) :
    PMs X (⟨.MatchValue (.Constant (.str c) j p1) p2, none, body⟩ :: rest) (fun v E σ H => ∃ z, v = .str z ∧ if z = c then tb E σ H else tr v E σ H) := by
  intro first pins s σ H E v u I rv h
  obtain ⟨z, rfl, h⟩ := h
  refine wpAny_matchCases_cons (wpAny_matchPattern_Value (thn (pe_str.run pins s σ H (fun x H1 => x = .str c ∧ H1 = H) I ⟨rfl, rfl⟩) ?_))
  rintro w s1 ⟨x, H1, I1, rx, rfl, rfl⟩
  refine thn (op_eq pins s1 σ _ (.str z) (.str c) u w (fun y H2 => y = .bl (decide (z = c)) ∧ H2 = H1) I1 rv rx ⟨rfl, by simp, rfl⟩) ?_
  rintro b s2 ⟨y, H2, I2, ry, rfl, rfl⟩
  cases ry
  refine wpAny_truthy_bool ?_
  by_cases e : z = c
  · rw [if_pos e] at h
    rw [if_pos (by simpa using e)]
    exact PyProof.Rows.assignInOrder_nil (hb.run pins s2 σ _ E I2 h)
  · rw [if_neg e] at h
    rw [if_neg (by simpa using e)]
    exact hr false pins s2 σ _ E _ u I2 rv h
theorem ps_match {subj : Expr} {cs : List MatchCase} {te : TE} {t : V → TS} {pos : Pos} (he : PE X subj te) (hc : PMs X cs t) : PS X (.Match subj cs pos) (fun E σ H => te σ H fun v H1 => t v E σ H1) :=
  ⟨fun pins s σ H E I h => wpAny_Match (thn (he.run pins s σ H _ I h) fun u s1 ⟨v, H1, I1, rv, q⟩ => hc true pins s1 σ H1 E v u I1 rv q)⟩
@[simp] def dCases : List (Option Str × DTS) → D → DTS
  | [], _ => dNext
  | (none, t) :: _, _ => t
  | (some c, t) :: r, d => fun E ρ G => match d with
    | .str z => if z = c then t E ρ G else dCases r d E ρ G
    | _ => False
@[simp] def dMatch (te : DTE) (cs : List (Option Str × DTS)) : DTS := fun E ρ G => te ρ G fun d G1 => dCases cs d E ρ G1
def upMs (K : PySem.W.Frag) (cs : List (Option Str × DTS)) (v : V) : TS := fun Dv σ H => ∃ (ρ : DSt) (G : GH) (E : DEnds) (d : D), DRel K σ H ρ G ∧ RepV K G H d v ∧ dCases cs d E ρ G ∧
  (∀ σ' ρ' H' G', Ext G H G' H' → DRel K σ' H' ρ' G' → E.nx ρ' G' → Dv.nx σ' H') ∧
  (∀ v d H' G', Ext G H G' H' → GOk K G' H' → RepV K G' H' d v → E.rt d G' → Dv.rt v H') ∧
  (∀ σ' ρ' H' G', Ext G H G' H' → DRel K σ' H' ρ' G' → E.bk ρ' G' → Dv.bk σ' H') ∧
  (∀ σ' ρ' H' G', Ext G H G' H' → DRel K σ' H' ρ' G' → E.ct ρ' G' → Dv.ct σ' H')
abbrev DMs (X : Cx) (cs : List MatchCase) (ds : List (Option Str × DTS)) : Prop := PMs X cs (upMs X.K ds)
theorem dms_any {body : List Stmt} {rest : List MatchCase} {tb : DTS} {ds : List (Option Str × DTS)} {pos : Pos} (hb : DSs X body tb) : DMs X (⟨.MatchAs none none pos, none, body⟩ :: rest) ((none, tb) :: ds) := fun first pins s σ H E v u I rv ⟨ρ, G, E', d, r, rd, h, k1, k2, k3, k4⟩ =>
  pms_any hb first pins s σ H E v u I rv ⟨ρ, G, E', r, h, k1, k2, k3, k4⟩
theorem dms_val {c : Str} {j : Nat} {p1 p2 : Pos} {body : List Stmt} {rest : List MatchCase} {tb : DTS} {ds : List (Option Str × DTS)} (hb : DSs X body tb) (hr : DMs X rest ds) :
    DMs X (⟨.MatchValue (.Constant (.str c) j p1) p2, none, body⟩ :: rest) ((some c, tb) :: ds) := by
  rintro first pins s σ H E v u I rv ⟨ρ, G, E', d, r, rd, h, k1, k2, k3, k4⟩
  refine pms_val hb hr first pins s σ H E v u I rv ?_
  cases d with
  | str z =>
    cases rv_str rd
    refine ⟨z, rfl, ?_⟩
    dsimp only [dCases] at h
    by_cases e : z = c
    · rw [if_pos e] at h ⊢
      exact ⟨ρ, G, E', r, h, k1, k2, k3, k4⟩
    · rw [if_neg e] at h ⊢
      exact ⟨ρ, G, E', .str z, r, rd, h, k1, k2, k3, k4⟩
  | _ => exact h.elim
theorem ds_match {subj : Expr} {cs : List MatchCase} {te : DTE} {ds : List (Option Str × DTS)} {pos : Pos} (he : DE X subj te) (hc : DMs X cs ds) : DS X (.Match subj cs pos) (dMatch te ds) := by
  refine (ps_match he hc).imp fun D σ H ⟨ρ, G, E, r, h, k1, k2, k3, k4⟩ => ?_
  refine ⟨ρ, G, _, r, h, fun v d H1 G1 e r1 v1 h1 => ?_⟩
  exact ⟨ρ, G1, E, d, r1, v1, h1, fun a b c d e' => k1 a b c d (e.trans e'), fun a b c d e' => k2 a b c d (e.trans e'), fun a b c d e' => k3 a b c d (e.trans e'), fun a b c d e' => k4 a b c d (e.trans e')⟩
end
end Dl

namespace Dl
open PySem L2
section
open AutoSeq1 (wpAny_loadPart')
theorem enum_new_tuple (t : Addr) (items : Array Value) (n : Nat) (dct : Option Addr) (sl : Array (Option Value)) :
    Meets (Builtin.«enumerate.__new__» ⟨[.type "enumerate", .ref t], []⟩) (fun _ R s => s.heap.get? t = some { cls := .type "tuple", dict := dct, data := .seq items n, slots := sl } ∧
      R (.ok (.ret (.ref (s.heap.push { cls := .type "tuple_iterator", data := .fields #[.ref t, .int 0 0] }).objs.size)))
        { s with heap := (s.heap.push { cls := .type "tuple_iterator", data := .fields #[.ref t, .int 0 0] }).push { cls := .type "enumerate", data := .fields #[.none, .bool false, .ref s.heap.objs.size, rawInt 0, .none, .none] } }) :=
  .of_wp fun prog w A R st hh => by
    obtain ⟨hp, gg, dr, tk, os⟩ := st
    obtain ⟨hl, hR⟩ := hh
    have hsub := sub_enumerate
    have hT : Heap.IsTuple (Shared.heap ⟨hp, gg, dr, tk, os⟩) t items := ⟨_, hl, rfl, n, rfl⟩
    wp_walk using wpAny_loadPart' hl
    refine wpAny_stack_any fun stk => wpAny_pure ?_
    split
    · rename_i c _ _ _ _ _
      cases (c == Value.type "enumerate") <;> (wp_walk using wpAny_loadPart' hl, wpAny_pyIter_tuple hT; exact ⟨_, rfl, hR⟩)
    · wp_walk using wpAny_loadPart' hl, wpAny_pyIter_tuple hT
      exact ⟨_, rfl, hR⟩
theorem call_enum_tuple {prog : Program} {w : World} {A : Around} {E : Value → Shared → Prop} {s : Shared} {t : Addr} {items : Array Value} {Q : Value → Shared → Prop} (hT : s.heap.IsTuple t items)
    (h : ∀ h', IsEnum h' (s.heap.objs.size + 1) s.heap.objs.size 0 .none → h'.IsTupleIter s.heap.objs.size t 0 → h'.objs.size = s.heap.objs.size + 2 →
      (∀ b o, s.heap.get? b = some o → h'.get? b = some o) → Q (.ref (s.heap.objs.size + 1)) { s with heap := h' }) : wpAny (model prog w) A (PySem.call (.type "enumerate") [.ref t]) Q E s := by
  obtain ⟨⟨c, dct, dt, sl⟩, hl, hc, n, hd⟩ := hT
  simp only at hc hd
  subst hc hd
  refine callType_new F.called_enumerate (by decide) (F.typeCall_enumerate_1 _) (F.newCall_enumerate_1 _) (fun obj => F.args_object_init_2 obj _) F.entry_enumerate_new (enum_new_tuple t items n dct sl) ⟨hl, ?_⟩
  have sz : (s.heap.push { cls := .type "tuple_iterator", data := .fields #[.ref t, .int 0 0] }).objs.size = s.heap.objs.size + 1 := Heap.size_push ..
  have top := Heap.get?_push_size (s.heap.push { cls := .type "tuple_iterator", data := .fields #[.ref t, .int 0 0] }) (o := { cls := .type "enumerate", data := .fields #[.none, .bool false, .ref s.heap.objs.size, rawInt 0, .none, .none] }) rfl
  rw [sz] at top
  show _ ∧ _
  rw [sz]
  exact ⟨⟨_, top, rfl⟩, h _ top ⟨_, Heap.get?_push_of_some _ (Heap.get?_push_size _ rfl), rfl, rfl⟩ (by rw [Heap.size_push, sz]) fun b o q => Heap.get?_push_of_some _ (Heap.get?_push_of_some _ q)⟩
end
def Iet (K : PySem.W.Frag) (a : Addr) : It where
  go := fun i H => ∃ (xs : List V) (x : V), SqT K H a xs ∧ xs[i]? = some x
  yld := fun i H v H' => ∃ T x, v = .ref T ∧ H T = none ∧ H' = upd H T (.tup [.int (i : Nat), x]) ∧ ∀ xs, SqT K H a xs → xs[i]? = some x
  stop := fun i H => ∃ xs : List V, SqT K H a xs ∧ xs.length = i
theorem turn_enumT {P : Program} {w : World} {K : PySem.W.Frag} {elts : List Expr} {kk : Nat} {tpos : Pos} (a e it : Addr) :
    Turn P w K (.Tuple elts kk tpos) (Iet K a) [e, it] e (fun i h => (∃ old, IsEnum h e it ((i : Nat) : Int) old) ∧ h.IsTupleIter it a i ∧ e ≠ it) where
  mem := by simp
  obj := by
    rintro i h ⟨⟨old, he⟩, ⟨o, ho, hc, hd⟩, _⟩ b hb
    rcases (by simpa using hb : b = e ∨ b = it) with rfl | rfl
    · exact ⟨_, he, fun v q => nomatch q⟩
    · exact ⟨o, ho, fun v q => by rw [hd] at q; cases q⟩
  keep := by
    rintro i h h' ⟨⟨old, he⟩, hi, hne⟩ k
    exact ⟨⟨old, k e (by simp) _ he⟩, hi.at fun o q => k it (by simp) o q, hne⟩
  item := by
    rintro X rfl rfl rfl hc i pins s σ H E I hf ⟨⟨old, he⟩, hit, hne⟩ ⟨xs, x, hq, hx⟩
    obtain ⟨its, rv, tp, hz⟩ := I.tuple hq
    obtain ⟨u, hu, ru⟩ := rv.get hx
    have hel : e < s.heap.objs.size := Heap.lt_size he
    have hil : it < s.heap.objs.size := by obtain ⟨_, q, _⟩ := hit; exact Heap.lt_size q
    have htp : s.heap.IsTuple a its.toArray := tp
    have hai : a ≠ it := by
      rintro rfl
      obtain ⟨o1, q1, c1, _⟩ := htp
      obtain ⟨o2, q2, c2, _⟩ := hit
      rw [q1] at q2
      cases q2
      rw [c1] at c2
      simp at c2
    have hae : a ≠ e := by
      rintro rfl
      obtain ⟨o1, q1, c1, _⟩ := htp
      have q2 : s.heap.get? a = some _ := he
      rw [q1] at q2
      cases q2
      simp at c1
    have hlt : i < its.toArray.size := by
      have := (List.getElem?_eq_some_iff.mp hu).1
      simpa using this
    refine wpAny_pyNext_enum_itemC (Draws.tuple (show X.A.in1.handled = none from I.ok.hd hc) it a hai its.toArray) he ⟨hit, htp⟩ hlt hne (by simp [hne, hae.symm]) ?_
    intro y h' tk hy ho hst hT hsz hk
    have ey : y = u := by
      have hy2 : its.toArray[i]? = some y := hy
      rw [show its.toArray[i]? = its[i]? by simp] at hy2
      rw [hu] at hy2
      exact (Option.some.inj hy2).symm
    subst ey
    refine ⟨_, rfl, wpAny_letOwnedTupleGo_enum (s := { s with heap := h', toks := tk + 1 }) ho fun h2 he2 sb => ?_⟩
    have hT2 : h2.get? s.heap.objs.size = some { cls := .type "tuple", data := .seq #[.int i tk, y] } := (sb.2 _ (Nat.ne_of_gt hel)).trans hT
    have new : ObjOk X.prog X.w (upd H s.heap.objs.size (.tup [.int (i : Nat), x])) h2 s.heap.objs.size (.tup [.int (i : Nat), x]) :=
      ⟨by show 2 ≤ sizeLine; decide, [.int i tk, y], .cons ⟨_, rfl⟩ (.cons ru .nil), ⟨_, hT2, rfl, _, rfl⟩⟩
    have I1 : Inv X pins σ (upd H s.heap.objs.size (.tup [.int (i : Nat), x])) { s with heap := h2, toks := tk + 1 } :=
      I.turnedNew (ch := [e, it]) (fun b ob hb q => (sb.2 b (fun z => hb (by simp [z]))).trans (hk b ob (fun z => hb (by simp [z])) (fun z => hb (by simp [z])) q)) hf (Nat.le_refl _) new
    refine ⟨.ref s.heap.objs.size, _, I1, rfl, ⟨_, x, rfl, I.hok.fresh (Nat.le_refl _), rfl, fun ys hy => by rw [I.tuple_inj hy hq]; exact hx⟩, ⟨⟨y, ?_⟩, hst.1.at fun o q => (sb.2 it (Ne.symm hne)).trans q, hne⟩, fun b hb => ?_⟩
    · have e1 : ((i + 1 : Nat) : Int) = (i : Int) + 1 := by omega
      rw [e1]
      exact he2
    · have hb2 : b < s.heap.objs.size := by
        rcases (by simpa using hb : b = e ∨ b = it) with rfl | rfl
        · exact hel
        · exact hil
      rw [upd_ne (Nat.ne_of_lt hb2)]
      exact (hf b hb).1
  done := by
    rintro X rfl rfl rfl hc i pins s σ H E I hf ⟨⟨old, he⟩, hit, hne⟩ ⟨xs, hq, hx⟩
    obtain ⟨its, rv, tp, hz⟩ := I.tuple hq
    obtain ⟨f0, f1, f2, f3, f4, f5⟩ := hf it (by simp)
    have htp : s.heap.IsTuple a its.toArray := tp
    have hai : a ≠ it := by
      rintro rfl
      obtain ⟨o1, q1, c1, _⟩ := htp
      obtain ⟨o2, q2, c2, _⟩ := hit
      rw [q1] at q2
      cases q2
      rw [c1] at c2
      simp at c2
    have hl : its.toArray.size = i := by rw [List.size_toArray, ← rv.length]; exact hx
    subst hl
    exact wpAny_pyNext_enum_endD (Draws.tuple (show X.A.in1.handled = none from I.ok.hd hc) it a hai its.toArray) he ⟨hit, htp⟩ fun h' eb => ⟨rfl, I.turned (t' := s.toks) (fun b o hb q => eb b o hb q) f0 f1 f3 f4 f5⟩
  self := by
    rintro A i s Q E ⟨⟨_, he⟩, _⟩ h
    exact wpAny_pyIter_enum he h
section
variable {X : Cx}
def iEnumT (K : PySem.W.Frag) (ta : TA) : TI := fun σ H R => ta σ H fun vs H1 => ∃ a xs, vs = [.ref a] ∧ SqT K H1 a xs ∧ R (Iet K a) H1
theorem pi_enumT {e : Expr} {ta : TA} {p pos tpos : Pos} {elts : List Expr} {kk : Nat} (hg : Gl X "enumerate") (hm : X.mg "enumerate" = none) (ha : PA X [e] ta) (hs : starEach [e] X.env = [(false, eval e X.env)] := by rfl) :
    PI X (.Tuple elts kk tpos) (.Call (.Name "enumerate" p) [e] [] pos) (iEnumT X.K ta) := by
  constructor
  intro pins s σ H R I h
  refine PyProof.Rows.Call_ (ld_blt I hg hm PyProof.Rows.boot_enumerate (PyProof.Rows.callWith_type1 (thn (ha.run pos pins s σ H _ I h) ?_) hs rfl))
  rintro us s1 ⟨vs, H1, I1, r1, a, xs, rfl, hq, q⟩
  obtain ⟨u, rfl, ru⟩ := vals1 r1
  cases ru
  obtain ⟨its, rv, tp, hz⟩ := I1.tuple hq
  refine call_enum_tuple (show s1.heap.IsTuple a its.toArray from tp) fun h' he hit hsz hk => wpAny_pyIter_enum he ?_
  have I2 : Inv X pins σ H1 { s1 with heap := h' } := I1.kept (t' := s1.toks) hk
  refine ⟨s1.heap.objs.size + 1, [s1.heap.objs.size + 1, s1.heap.objs.size], _, _, H1, rfl, I2, turn_enumT a (s1.heap.objs.size + 1) s1.heap.objs.size, ⟨⟨.none, he⟩, hit, Nat.succ_ne_self _⟩, fun b hb => ?_, q⟩
  have hle : s1.heap.objs.size ≤ b := by
    rcases (by simpa using hb : b = s1.heap.objs.size + 1 ∨ b = s1.heap.objs.size) with rfl | rfl
    · exact Nat.le_add_right _ _
    · exact Nat.le_refl _
  exact I1.fpOk hle (I1.hok.fresh hle)
end
def enumD (ds : List D) : List D := (List.range ds.length).map fun i => D.tup [.int (i : Nat), ds.getD i .non]
theorem enumD_get {ds : List D} {i : Nat} {d : D} (h : (enumD ds)[i]? = some d) : ∃ x, ds[i]? = some x ∧ d = .tup [.int (i : Nat), x] := by
  unfold enumD at h
  rw [List.getElem?_map] at h
  by_cases hi : i < ds.length
  · rw [List.getElem?_range hi] at h
    simp only [Option.map_some, Option.some.injEq] at h
    exact ⟨ds[i], List.getElem?_eq_getElem hi, by rw [← h]; simp [hi]⟩
  · rw [List.getElem?_eq_none (by simpa using hi)] at h
    simp at h
theorem enumD_len (ds : List D) : (enumD ds).length = ds.length := by simp [enumD]
@[simp] def iEnT (te : DTE) : DTI := fun ρ G Q => te ρ G fun d G1 => match d with
  | .tup ds => Q (enumD ds) okAll G1
  | _ => False
section
variable {X : Cx}
theorem di_enumT {e : Expr} {te : DTE} {p pos tpos : Pos} {elts : List Expr} {kk : Nat} (hg : Gl X "enumerate") (hm : X.mg "enumerate" = none) (he : DE X e te) (hs : starEach [e] X.env = [(false, eval e X.env)] := by rfl) :
    DI X (.Tuple elts kk tpos) (.Call (.Name "enumerate" p) [e] [] pos) (iEnT te) := by
  refine (pi_enumT hg hm (pa_cons he pa_nil (by rw [hs]; rfl)) hs).imp fun σ H R ⟨ρ, G, q, r, h, k⟩ => ?_
  refine ⟨ρ, G, _, r, h, fun v d H1 G1 e1 r1 v1 h1 => ?_⟩
  cases d with
  | tup ds =>
    unfold RepV at v1
    obtain ⟨a, xs, rfl, ta, rl⟩ := v1
    refine ⟨a, xs, rfl, ta.sq, k _ (enumD ds) okAll H1 G1 e1 r1 (fun G2 H2 e2 g2 _ i => ⟨fun d hd => ?_, fun hi => ⟨xs, (ta.ext e2).sq, by rw [rl.length, hi, enumD_len]⟩⟩) h1⟩
    obtain ⟨x, hx, rfl⟩ := enumD_get hd
    obtain ⟨w, hw, rw'⟩ := (rl.ext e2).get hx
    refine ⟨⟨xs, w, (ta.ext e2).sq, hw⟩, fun y H3 hy => ?_⟩
    obtain ⟨T, z, rfl, hT, rfl, hz⟩ := hy
    have ez := hz xs (ta.ext e2).sq
    rw [hw] at ez
    cases ez
    obtain ⟨e3, g3, v3⟩ := new_tup g2 hT (repL_cons (int_rv (i := (i : Nat))) (repL_one rw'))
    exact ⟨e3, g3, v3⟩
  | _ => exact h1.elim
end
end Dl

namespace Dl
open PySem PySem.Spec PyProof.Rows L2

theorem law_go {P : Program} {w : World} {K : PySem.W.Frag} {mg mb : Str → Option Value} {k : Nat} {fa a : Addr} {fd : FuncData} {x : Str} {sp : DSp} {st : Shared} {vs : List Value} {ns : List Int}
    (kin : K.In st.heap) (gl : st.heap.Ns mainGlobals mg) (bl : st.heap.Ns builtinsNs mb) (bb : ∀ y : Str, y ≠ "__name__" → mb y = bootBuiltins y) (lim : st.heap.NoLimit) (hg : st.gens = #[])
    (ha : st.heap.get? a = some { cls := .type "list", data := .seq vs.toArray }) (hi : IntsAre vs ns) (hl : ns.length ≤ sizeLine) (hr : Room k callerA) (hgd : callerA.guards = some [])
    (F : ∀ base : Heap, K.In base → base.Ns mainGlobals mg → DFn P w K mg base k fa fd [x] sp) (bind : ∀ (s : Shared) (u : Value), BindsTo s fd ⟨[u], []⟩ [(x, u)])
    (hsp : sp [.scr ns] (fun _ => none) (fun d _ => d = .bl true) noX) :
    codeAny (model P w) callerA (.call (.ref fa) ⟨[.ref a], []⟩) (fun r s' => r = .ok (.ret (.bool true)) ∧ OldK st.heap s'.heap ∧ s'.os = st.os ∧ AllBare s'.gens) st := by
  have rv : Vals (ns.map V.int) vs := vals_of_ints hi
  have ln : vs.length = ns.length := hi.length
  let ob : Obj := { cls := .type "list", data := .seq vs.toArray }
  let fz : HO := .frz ob (.lst (ns.map V.int))
  -- the abstract heap: the script alone, if it is not of the written part
  obtain ⟨H, h1, h2, h3⟩ : ∃ H : Hp, (∀ b, H b = none ∨ (b = a ∧ H b = some fz)) ∧ ScrAt K (fun _ => none) H a (ns.map V.int) ∧ (∀ b o, K.lookup b = some o → H b = none) := by
    cases q : K.lookup a with
    | some o =>
      have e := kin a o q
      rw [ha] at e
      cases e
      refine ⟨fun _ => none, fun _ => .inl rfl, .inr ⟨_, vs.toArray, _, q, rfl, rfl, rfl, ?_, ?_⟩, fun _ _ _ => rfl⟩
      · rw [List.size_toArray, ln]; exact hl
      · simpa using rv
    | none =>
      refine ⟨fun b => if b = a then some fz else none, fun b => ?_, .inl ⟨rfl, .inr ⟨ob, if_pos rfl⟩⟩, fun b o e => ?_⟩
      · by_cases e : b = a
        · exact .inr ⟨e, if_pos e⟩
        · exact .inl (if_neg e)
      · refine if_neg ?_
        rintro rfl
        rw [q] at e
        cases e
  have dicts : ∀ {b : Addr} {o : Obj} {es : Array DictEntry} {ep : Nat}, st.heap.get? b = some o → o.data = .dict es ep → H b = none := by
    intro b o es ep e d
    rcases h1 b with z | ⟨rfl, _⟩
    · exact z
    · rw [ha] at e
      cases e
      cases d
  have keep : ∀ {b : Addr} {m : Str → Option Value}, st.heap.Ns b m → (hidT st.heap H).Ns b m := by
    rintro b m ⟨o, es, ep, e, d, r⟩
    exact ⟨o, es, ep, hidT_get e (dicts e d), d, r⟩
  have kin2 : K.In (hidT st.heap H) := fun b o e => hidT_get (kin b o e) (h3 b o e)
  have ok : HOk P w H st.heap := by
    intro b u e
    rcases h1 b with z | ⟨rfl, z⟩
    · rw [z] at e; cases e
    · rw [z] at e
      cases e
      exact ⟨ha, by rw [List.length_map]; exact hl, vs, _, rv, ha⟩
  obtain ⟨ml, l1, l2⟩ := lim
  have e0 : Env0 P w K mg (hidT st.heap H) callerA [] st H :=
    { frames := rfl, mod := ⟨kin2, keep gl, ⟨mb, keep bl, bb⟩, ⟨ml, keep l1, l2⟩⟩, bs := fun b o e => of_hidT e, bsz := Nat.le_of_eq (hidT_size _ _), funs := trivial, frf := fun b hb => absurd (show b ∈ ([] : List Addr) from hb) (by simp), hok := ok, bare := .of_eq hg }
  have gok : GOk K (fun _ => none) H := fun b o e => nomatch e
  have rep : RepL K (fun _ => none) H [.scr ns] [.ref a] := repL_one (by unfold RepV; exact ⟨a, rfl, h2⟩)
  have prom : toSp K sp [.ref a] H (fun v _ => v = .bl true) E0 := ⟨_, _, _, noX, rep, gok, hsp, fun v d H' G' _ _ r q => by
    have q' : d = .bl true := q
    subst q'
    exact rv_bl r, fun _ _ _ _ _ _ _ _ z => z.elim⟩
  refine codeAny_mono ((F _ kin2 (keep gl)).go callerA [] st H ⟨[.ref a], []⟩ [.ref a] [.ref a] _ _ hr hgd e0 (bind st (.ref a)) (.cons rfl .nil) prom) ?_
  intro r s2 hq
  match r, hq with
  | .ok (.ret u), hq =>
    obtain ⟨v, H2, os, bare, un, ok2, ru, qv⟩ := hq
    have qv' : v = .bl true := qv
    subst qv'
    obtain rfl : u = Value.bool true := ru
    refine ⟨rfl, OldK.of_keep ?_, os, bare⟩
    intro b o e
    rcases h1 b with z | ⟨rfl, z⟩
    · exact un.keep b o e z (by simp [frs]) (by simp)
    · have z2 := un.frzs _ ob _ z
      obtain ⟨e1, _⟩ := ok _ _ z
      obtain ⟨e2, _⟩ := ok2 _ _ z2
      rw [e] at e1
      cases e1
      exact e2
theorem d_walk {l : PySem.W.OpenLaw} {n k : Nat} {q : Program} {loose : List Str} {XP : (Str → Option Value) → Heap → Prop} {YP : World → Heap → Prop} {d : DefRec} {x : Str}
    (hn : l.most = some n) (hn2 : n ≤ sizeLine) (hdf : d.params.defaults = []) (hr : Room k callerA) (hgd : callerA.guards = some [])
    (F : ∀ (w : World) (mg : Str → Option Value) (fa : Addr) (h : Heap), YP w h → h.Ns mainGlobals mg → mg d.name = some (.ref fa) →
      ∃ (K : PySem.W.Frag) (fd : FuncData) (sp : DSp), K.In h ∧ (∀ (s : Shared) (u : Value), BindsTo s fd ⟨[u], []⟩ [(x, u)]) ∧
        (∀ ns : List Int, ns.length ≤ n → sp [.scr ns] (fun _ => none) (fun d _ => d = .bl true) noX) ∧
        ∀ base : Heap, K.In base → base.Ns mainGlobals mg → DFn l.prog w K mg base k fa fd [x] sp) :
    PySem.W.WalkO q loose XP YP l.row.toRowW d [] (fun f vs => PySem.call f vs) := by
  refine Att.attach_call hn hdf ?_
  intro w s0 s1 mg mb fa o pm cd doc a vs ns G Y ho hd hcd hmg hobj hints hlen hg
  obtain ⟨K, fd, sp, kin, hb, hsp, hF⟩ := F w mg fa _ Y G.T.g hmg
  exact law_go kin G.T.g G.T.b G.T.builtins G.T.nolimit hg hobj hints (Nat.le_trans hlen hn2) hr hgd hF hb (hsp ns hlen)
end Dl

namespace Dl
open PySem L2

@[simp] def dNeg (te : DTE) : DTE := fun ρ G Q => te ρ G fun d G1 => match d with
  | .int i => Q (.int (-i)) G1
  | _ => False
section
variable {X : Cx}
theorem pi_seq {tg l : Expr} {tl : TE} (hl : PE X l tl) : PI X tg l (fun σ H R => tl σ H fun x H1 => (∃ a, x = .ref a ∧ (∃ xs, SqL X.K H1 a xs) ∧ R (Itl X.K a) H1) ∨ ∃ a, x = .ref a ∧ (∃ xs, SqT X.K H1 a xs) ∧ R (Itt X.K a) H1) := by
  constructor
  intro pins s σ H R I h
  refine thn (hl.run pins s σ H _ I h) ?_
  rintro v s1 ⟨x, H1, I1, r1, q1⟩
  have fp : ∀ b ∈ [s1.heap.objs.size], FpOk X pins H1 b := by
    intro b hb
    obtain rfl : b = s1.heap.objs.size := by simpa using hb
    exact I1.fpOk (Nat.le_refl _) (I1.hok.fresh (Nat.le_refl _))
  rcases q1 with ⟨a, rfl, ⟨xs, hq⟩, q⟩ | ⟨a, rfl, ⟨xs, hq⟩, q⟩
  · cases r1
    obtain ⟨its, rv, p, hz⟩ := I1.list hq
    exact wpAny_pyIter_list p.isList ⟨_, [s1.heap.objs.size], _, _, H1, rfl, I1.kept (t' := s1.toks) (fun b o e => Heap.get?_push_of_some _ e), turn_list a _, ⟨_, Heap.get?_push_size _ rfl, rfl, rfl⟩, fp, q⟩
  · cases r1
    obtain ⟨its, rv, p, hz⟩ := I1.tuple hq
    exact wpAny_pyIter_tuple (show s1.heap.IsTuple a its.toArray from p) ⟨_, [s1.heap.objs.size], _, _, H1, rfl, I1.kept (t' := s1.toks) (fun b o e => Heap.get?_push_of_some _ e), turn_tuple a _, ⟨_, Heap.get?_push_size _ rfl, rfl, rfl⟩, fp, q⟩
@[simp] def iSq (te : DTE) : DTI := fun ρ G Q => te ρ G fun d G1 => match d with
  | .tup ds => Q ds okAll G1
  | .lst ds => Q ds okAll G1
  | .ref a => (match G1 a with
    | some (.lst ds) => Q ds (fun G => G a = some (.lst ds)) G1
    | _ => False)
  | _ => False
theorem di_seq {tg e : Expr} {te : DTE} (he : DE X e te) : DI X tg e (iSq te) := by
  refine (pi_seq he).imp fun σ H R ⟨ρ, G, q, r, h, k⟩ => ?_
  refine ⟨ρ, G, _, r, h, fun v d H1 G1 e1 r1 v1 h1 => ?_⟩
  cases d with
  | tup ds =>
    unfold RepV at v1
    obtain ⟨a, xs, rfl, ta, rl⟩ := v1
    refine .inr ⟨a, rfl, ⟨xs, ta.sq⟩, k _ ds okAll H1 G1 e1 r1 (fun G2 H2 e2 g2 _ i => ⟨fun d hd => ?_, fun hi => ⟨xs, (ta.ext e2).sq, by rw [rl.length]; exact Nat.le_of_eq hi.symm⟩⟩) h1⟩
    obtain ⟨x, hx, rx⟩ := (rl.ext e2).get hd
    refine ⟨⟨xs, x, (ta.ext e2).sq, hx⟩, fun y H3 hy => ?_⟩
    obtain ⟨rfl, hy⟩ := hy
    have e := hy xs (ta.ext e2).sq
    rw [hx] at e
    cases e
    exact ⟨Ext.refl _ _, g2, rx⟩
  | lst ds =>
    unfold RepV at v1
    obtain ⟨a, xs, rfl, ta, rl⟩ := v1
    refine .inl ⟨a, rfl, ⟨xs, ta.sq⟩, k _ ds okAll H1 G1 e1 r1 (fun G2 H2 e2 g2 _ i => ⟨fun d hd => ?_, fun hi => ⟨xs, (ta.ext e2).sq, by rw [rl.length]; exact Nat.le_of_eq hi.symm⟩⟩) h1⟩
    obtain ⟨x, hx, rx⟩ := (rl.ext e2).get hd
    refine ⟨⟨xs, x, (ta.ext e2).sq, hx⟩, fun y H3 hy => ?_⟩
    obtain ⟨rfl, hy⟩ := hy
    have e := hy xs (ta.ext e2).sq
    rw [hx] at e
    cases e
    exact ⟨Ext.refl _ _, g2, rx⟩
  | ref a =>
    cases rv_ref v1
    dsimp only at h1
    cases hg : G1 a with
    | none => rw [hg] at h1; exact h1.elim
    | some o =>
      rw [hg] at h1
      cases o with
      | lst ds =>
        obtain ⟨xs, hx, rx⟩ := r1.gok a _ hg
        refine .inl ⟨a, rfl, ⟨xs, SqL.of hx⟩, k _ ds (fun G => G a = some (.lst ds)) H1 G1 e1 r1 (fun G2 H2 e2 g2 ho i => ?_) h1⟩
        obtain ⟨ys, hy, ry⟩ := g2 a _ ho
        refine ⟨fun d hd => ?_, fun hi => ⟨ys, SqL.of hy, by rw [ry.length]; exact Nat.le_of_eq hi.symm⟩⟩
        obtain ⟨x, hx, rx⟩ := ry.get hd
        refine ⟨⟨ys, x, SqL.of hy, hx⟩, fun z H3 hz => ?_⟩
        obtain ⟨rfl, hz⟩ := hz
        have e := hz ys (SqL.of hy)
        rw [hx] at e
        cases e
        exact ⟨Ext.refl _ _, g2, rx⟩
      | dct _ => exact h1.elim
      | raw _ => exact h1.elim
  | _ => exact h1.elim

theorem dt_din (hu : X.A.units + 1 < cLine) {f : Bool → Bool} {op : CmpOp} {i o : Expr} {ty td : DTE} {pos : Pos} (hop : op = .In ∧ f = id ∨ op = .NotIn ∧ f = not) (hi : DE X i ty) (ho : DE X o td) (hm : behindInMarks op o = false) : DT X (.Compare i [op] [o] pos) (dTst (dOp (rDIn f) ty td)) := by
  have core : ∀ σ H Q, up X.K (dOp (rDIn f) ty td) σ H Q → up X.K ty σ H fun y H1 => up X.K td σ H1 fun x H2 => ∃ a ov, x = .ref a ∧ DGet H2 a y ov ∧ Q (.bl (f ov.isSome)) H2 := fun σ H Q ⟨ρ, G, q, r, h, k⟩ => by
    refine ⟨ρ, G, _, r, h, fun y dy H1 G1 e1 r1 v1 h1 => ?_⟩
    refine ⟨ρ, G1, _, r1, h1, fun x dx H2 G2 e2 r2 v2 h2 => ?_⟩
    obtain ⟨a, kvs, ws, rfl, rfl, hg, h2, w1, w2, w3⟩ := dct_of r2.gok v2 h2
    obtain ⟨kk, hk, h2⟩ := keyP_of h2
    cases key_rep (v1.ext e2) hk
    refine ⟨a, valV ws kk, rfl, DGet.k w1, k _ _ H2 G2 (e1.trans e2) r2 ?_ h2⟩
    have gr := getK_rep (k := kk) w2 w3
    have e4 : (valV ws kk).isSome = (getK kvs kk).isSome := by
      cases hd : getK kvs kk with
      | none => rw [hd] at gr; rw [gr] <;> rfl
      | some d => rw [hd] at gr; obtain ⟨w, e3, _⟩ := gr; rw [e3] <;> rfl
    rw [e4]
    exact bl_rv
  rcases hop with ⟨rfl, rfl⟩ | ⟨rfl, rfl⟩
  · exact (pt_cmp (pc_din hu hi ho) hm).imp fun σ H Q h => core σ H _ (up_tst h)
  · exact (pt_cmp (pc_dnotin hu hi ho) hm).imp fun σ H Q h => core σ H _ (up_tst h)
end

structure Callee (P : Program) (w : World) (K : PySem.W.Frag) (mg : Str → Option Value) (base : Heap) (k : Nat) (x : Str) (ps : List Str) (sp : DSp) : Prop where
  ex : ∃ f fd, DFn P w K mg base k f fd ps sp ∧ mg x = some (.ref f) ∧ PySem.W.keepIn K (.ref f) = true ∧ Binds K fd ps [] ∧ KwB K fd ps ps (fun l => l)
theorem Callee.up {P : Program} {w : World} {K : PySem.W.Frag} {mg : Str → Option Value} {base : Heap} {j k : Nat} {x : Str} {ps : List Str} {sp : DSp} (C : Callee P w K mg base j x ps sp) (h : j ≤ k) : Callee P w K mg base k x ps sp := by
  obtain ⟨f, fd, F, a⟩ := C.ex
  exact ⟨f, fd, F.up h, a⟩
section
variable {X : Cx} {k : Nat} {x : Str} {ps : List Str} {sp : DSp} {p pos : Pos} {e : Expr} {es : List Expr} {ta : DTA} {kws : List Keyword}
theorem dc (C : Callee X.prog X.w X.K X.mg X.base k x ps sp) (hr : Room k X.A) (hgd : X.A.guards = some []) (hg : Gl X x) (ha : DA X (e :: es) ta) (hdb : (x == ("__debug__" : Str)) = false := by decide)
    (he : starEach (e :: es) X.env = (false, eval e X.env) :: starEach es X.env := by rfl) (hpl : (backTo pos (starEach es X.env)).any (·.1) = false := by rfl) : DE X (.Call (.Name x p) (e :: es) [] pos) (dCall sp ta) := by
  obtain ⟨f, fd, F, hm, hk, hb, _⟩ := C.ex
  exact de_call F hr hgd hg hm hk hb ha hdb he hpl
theorem dc0 (C : Callee X.prog X.w X.K X.mg X.base k x ps sp) (hr : Room k X.A) (hgd : X.A.guards = some []) (hg : Gl X x) (hdb : (x == ("__debug__" : Str)) = false := by decide) : DE X (.Call (.Name x p) [] [] pos) (dCall sp dNil) := by
  obtain ⟨f, fd, F, hm, hk, hb, _⟩ := C.ex
  exact de_call0 F hr hgd hg hm hk hb hdb
theorem dck (C : Callee X.prog X.w X.K X.mg X.base k x ps sp) (hr : Room k X.A) (hgd : X.A.guards = some []) (hg : Gl X x) (hkw : DKw X kws ta) (hall : (backToKw pos (keywordEach kws X.env)).all (·.1.isSome) = true := by rfl)
    (hks : (backToKw pos (keywordEach kws X.env)).filterMap (·.1) = ps := by rfl) (hdb : (x == ("__debug__" : Str)) = false := by decide)
    (hpl : ((backTo pos (starEach [] X.env)).any (·.1) || (backToKw pos (keywordEach kws X.env)).any (·.1.isNone)) = false := by rfl) : DE X (.Call (.Name x p) [] kws pos) (dCall sp ta) := by
  obtain ⟨f, fd, F, hm, hk, _, hb⟩ := C.ex
  exact de_callK (g := fun l => l) F hr hgd hg hm hk hb hkw hall hks hdb hpl
theorem callee_of {P : Program} {w : World} {K : PySem.W.Frag} {mg : Str → Option Value} {base : Heap} {qual : Str} {params : Arguments} {body : List Stmt} {scope : Scope} {f : Addr} {fd : FuncData}
    (F : FunD K x qual params body scope [] [] f fd) (hm : mg x = some (.ref f)) (D : DFn P w K mg base k f fd ps sp)
    (b1 : ∀ (kV doc pm : Value) (an : Option Addr) (cdv ct : Value) (us : List Value), us.length = ps.length → bindArgs (PySem.W.fnOf x qual params body scope .none kV doc pm an cdv ct) ⟨us, []⟩ = pure (ps.zip us))
    (b2 : ∀ (kV doc pm : Value) (an : Option Addr) (cdv ct : Value) (us : List Value), us.length = ps.length → bindArgs (PySem.W.fnOf x qual params body scope .none kV doc pm an cdv ct) ⟨[], ps.zip us⟩ = pure (ps.zip us)) : Callee P w K mg base k x ps sp := by
  refine ⟨f, fd, D, hm, F.kp, F.bindsN b1, ⟨?_, fun r => r, fun r => r⟩⟩
  intro s ws hl
  obtain ⟨oc, od, dV, kV, doc, pm, an, cdv, ct, osl, rfl, lk, hcd, hD, hK⟩ := F.ex
  rcases hD with ⟨_, rfl⟩ | ⟨e, _⟩
  · exact .of_eq (b2 kV doc pm an cdv ct ws hl)
  · exact absurd rfl e
end

mutual
def repB (K : PySem.W.Frag) : D → Value → Bool
  | .non, u => (match u with
    | .none => true
    | _ => false)
  | .bl b, u => (match u with
    | .bool c => b == c
    | _ => false)
  | .int i, u => (match u with
    | .int j _ => decide (i = j)
    | _ => false)
  | .str x, u => (match u with
    | .str y _ => decide (x = y)
    | _ => false)
  | .tup ds, u => (match u with
    | .ref a => (match K.lookup a with
      | some ⟨.type c, _, .seq its _, _⟩ => decide (c = "tuple") && (decide (its.size ≤ sizeLine) && repBs K ds its.toList)
      | _ => false)
    | _ => false)
  | _, _ => false
def repBs (K : PySem.W.Frag) : List D → List Value → Bool
  | [], [] => true
  | d :: ds, u :: us => repB K d u && repBs K ds us
  | _, _ => false
end
mutual
theorem repB_ok {K : PySem.W.Frag} : ∀ {d : D} {u : Value}, repB K d u = true → ∃ v, RelV v u ∧ ∀ G H, RepV K G H d v
  | .non, u, h => by
    unfold repB at h
    cases u with
    | none => exact ⟨.non, rfl, fun _ _ => non_rv⟩
    | _ => cases h
  | .bl b, u, h => by
    unfold repB at h
    cases u with
    | bool c => exact ⟨.bl c, rfl, fun _ _ => by rw [eq_of_beq h]; exact bl_rv⟩
    | _ => cases h
  | .int i, u, h => by
    unfold repB at h
    cases u with
    | int j t => exact ⟨.int i, ⟨t, by rw [of_decide_eq_true h]⟩, fun _ _ => int_rv⟩
    | _ => cases h
  | .str i, u, h => by
    unfold repB at h
    cases u with
    | str j t => exact ⟨.str i, ⟨t, by rw [of_decide_eq_true h]⟩, fun _ _ => str_rv⟩
    | _ => cases h
  | .tup ds, u, h => by
    unfold repB at h
    cases u with
    | ref a =>
      dsimp only at h
      cases q : K.lookup a with
      | none => rw [q] at h; cases h
      | some o =>
        obtain ⟨oc, od, dt, osl⟩ := o
        rw [q] at h
        cases oc with
        | type c =>
          cases dt with
          | seq its n =>
            dsimp only at h
            rw [Bool.and_eq_true, Bool.and_eq_true] at h
            obtain ⟨h1, h2, h3⟩ := h
            obtain ⟨xs, rl, rp⟩ := repBs_ok h3
            refine ⟨.ref a, rfl, fun G H => ?_⟩
            unfold RepV
            exact ⟨a, xs, rfl, .inr ⟨_, its, n, q, by rw [of_decide_eq_true h1], rfl, of_decide_eq_true h2, rl⟩, rp G H⟩
          | _ => cases h
        | _ => cases dt <;> cases h
    | _ => cases h
  | .byt _, u, h => by unfold repB at h; cases h
  | .lst _, u, h => by unfold repB at h; cases h
  | .ref _, u, h => by unfold repB at h; cases h
  | .scr _, u, h => by unfold repB at h; cases h
theorem repBs_ok {K : PySem.W.Frag} : ∀ {ds : List D} {us : List Value}, repBs K ds us = true → ∃ xs, Vals xs us ∧ ∀ G H, RepL K G H ds xs
  | [], [], _ => ⟨[], .nil, fun _ _ => repL_nil⟩
  | [], _ :: _, h => by unfold repBs at h; cases h
  | _ :: _, [], h => by unfold repBs at h; cases h
  | d :: ds, u :: us, h => by
    unfold repBs at h
    rw [Bool.and_eq_true] at h
    obtain ⟨v, r1, p1⟩ := repB_ok h.1
    obtain ⟨xs, r2, p2⟩ := repBs_ok h.2
    exact ⟨v :: xs, .cons r1 r2, fun G H => repL_cons (p1 G H) (p2 G H)⟩
end
inductive Fx where
  | glo (x : Str)
  | free (x : Str)
  | dat (x : Str) (d : D)
def Fx.ok (K : PySem.W.Frag) : Fx → Bool
  | .glo x => (He.Fa.glo x).ok K
  | .free x => (He.Fa.free x).ok K
  | .dat x d => (match PySem.W.nsIn K mainGlobals x with
    | some (some u) => repB K d u
    | _ => false)
theorem dat_ok {K : PySem.W.Frag} {h : Heap} {mg : Str → Option Value} (X : K.In h) (G : h.Ns mainGlobals mg) {x : Str} {d : D} (c : (Fx.dat x d).ok K = true) : ∃ u, mg x = some u ∧ ∃ v, RelV v u ∧ ∀ G H, RepV K G H d v := by
  have c2 : (match PySem.W.nsIn K mainGlobals x with
    | some (some u) => repB K d u
    | _ => false) = true := c
  cases e : PySem.W.nsIn K mainGlobals x with
  | none => rw [e] at c2; cases c2
  | some o =>
    rw [e] at c2
    cases o with
    | none => cases c2
    | some u => exact ⟨u, PySem.W.mg_of X G e, repB_ok c2⟩
def obsX (fx : List Fx) (fn : List He.DefD) (K : PySem.W.Frag) : He.AlD := ((fx.all fun f => f.ok K) && fn.all fun d => d.ok K, fn.map fun d => He.fnW K d.at_)
def SaysX (fx : List Fx) (fn : List He.DefD) (K : PySem.W.Frag) : Prop := obsX fx fn K = He.valD fn
def obsXG (n : Nat) (fx : List Fx) (fn : List He.DefD) (g : Addr → Option Obj) : He.AlD := obsX fx fn (He.frG g (He.asD g n))
def hookX (n : Nat) (fx : List Fx) (fn : List He.DefD) : PySem.W.Hook where
  α := He.AlD
  obs := fun s => obsXG n fx fn s.heap.get?
  val := fun _ => He.valD fn
  says := fun _ h => ∃ K : PySem.W.Frag, K.In h ∧ SaysX fx fn K
  of := fun _ _ e => ⟨_, He.frG_in, e⟩
  keeps := fun _ _ _ ⟨K, hK, c⟩ k => ⟨K, PySem.W.Frag.In.keeps hK k, c⟩
theorem obsXG_eq {n : Nat} {fx : List Fx} {fn : List He.DefD} {g : Addr → Option Obj} {s : Shared} (h : ∀ a, g a = s.heap.get? a) : obsXG n fx fn g = (hookX n fx fn).obs s := by
  have e : g = s.heap.get? := funext h
  rw [e] <;> rfl
section
variable {fx : List Fx} {fn : List He.DefD} {K : PySem.W.Frag}
theorem SaysX.fact (c : SaysX fx fn K) (i : Nat) {f : Fx} (h : fx[i]? = some f := by rfl) : f.ok K = true := by
  have c1 := (He.ba (show ((fx.all fun f => f.ok K) && fn.all fun d => d.ok K) = true from congrArg (fun z : He.AlD => z.1) c)).1
  exact List.all_eq_true.mp c1 f (List.mem_of_getElem? h)
theorem SaysX.def_ (c : SaysX fx fn K) (i : Nat) {d : He.DefD} (h : fn[i]? = some d := by rfl) : ∃ fd, FunD K d.name d.qual d.params d.body d.scope (d.dvs K) (d.kws K) (He.fAd K d.at_) fd := by
  have c2 := (He.ba (show ((fx.all fun f => f.ok K) && fn.all fun d => d.ok K) = true from congrArg (fun z : He.AlD => z.1) c)).2
  have e : fn.map (fun d => He.fnW K d.at_) = fn.map He.DefD.val := congrArg (fun z : He.AlD => z.2) c
  have e2 : (fn.map fun d => He.fnW K d.at_)[i]? = (fn.map He.DefD.val)[i]? := by rw [e]
  rw [List.getElem?_map, List.getElem?_map, h] at e2
  exact He.DefD.funD (Option.some.inj e2) (List.all_eq_true.mp c2 d (List.mem_of_getElem? h))
end
end Dl

namespace K23
open PySem L2 Dl
open PyProof.Rows
def top (i : Nat) : Stmt := PySem.Challenge.pw_honestbars_k23_states_told.main.body.getD i (.Pass ⟨0, 0, 0, 0⟩)
abbrev s_tidy : Stmt := top 5
abbrev s_ticks_left : Stmt := top 6
abbrev s_some_steps : Stmt := top 7
abbrev s_loop_steps : Stmt := top 8
abbrev s_beside_steps : Stmt := top 9
abbrev s_steps_of : Stmt := top 10
abbrev s_is_tick : Stmt := top 12
abbrev s_states_of : Stmt := top 14
abbrev s_law_feed : Stmt := top 16
abbrev s_law_draw : Stmt := top 17
abbrev s_law_tidy : Stmt := top 18
abbrev s_law_next : Stmt := top 19
abbrev s_law_behind : Stmt := top 20
abbrev s_law_after : Stmt := top 21
abbrev s_law_is_tick : Stmt := top 22
abbrev s_law_runs : Stmt := top 23
abbrev s_law_end : Stmt := top 24
abbrev s_law_states : Stmt := top 25
abbrev s_law_rounds : Stmt := top 26
abbrev s_law_job : Stmt := top 27
abbrev s_law_some_job : Stmt := top 28
abbrev s_law_sides : Stmt := top 29
abbrev s_law_great : Stmt := top 30
abbrev s_law_is_small : Stmt := top 31
abbrev s_law_small_job : Stmt := top 32
abbrev s_law_agrees : Stmt := top 33
abbrev s_law : Stmt := top 34
def d_tidy_ : He.DefD := ⟨("tidy", none), "tidy", "tidy", defArgs s_tidy, defBody s_tidy, defScope s_tidy, [], []⟩
def d_ticks_left_ : He.DefD := ⟨("ticks_left", none), "ticks_left", "ticks_left", defArgs s_ticks_left, defBody s_ticks_left, defScope s_ticks_left, [], []⟩
def d_some_steps_ : He.DefD := ⟨("some_steps", none), "some_steps", "some_steps", defArgs s_some_steps, defBody s_some_steps, defScope s_some_steps, [], []⟩
def d_loop_steps_ : He.DefD := ⟨("loop_steps", none), "loop_steps", "loop_steps", defArgs s_loop_steps, defBody s_loop_steps, defScope s_loop_steps, [], []⟩
def d_beside_steps_ : He.DefD := ⟨("beside_steps", none), "beside_steps", "beside_steps", defArgs s_beside_steps, defBody s_beside_steps, defScope s_beside_steps, [], []⟩
def d_steps_of_ : He.DefD := ⟨("steps_of", none), "steps_of", "steps_of", defArgs s_steps_of, defBody s_steps_of, defScope s_steps_of, [], []⟩
def d_is_tick_ : He.DefD := ⟨("is_tick", none), "is_tick", "is_tick", defArgs s_is_tick, defBody s_is_tick, defScope s_is_tick, [], []⟩
def d_states_of_ : He.DefD := ⟨("states_of", none), "states_of", "states_of", defArgs s_states_of, defBody s_states_of, defScope s_states_of, [], []⟩
def d_law_feed_ : He.DefD := ⟨("_law_feed", none), "_law_feed", "_law_feed", defArgs s_law_feed, defBody s_law_feed, defScope s_law_feed, [], []⟩
def d_law_draw_ : He.DefD := ⟨("_law_draw", none), "_law_draw", "_law_draw", defArgs s_law_draw, defBody s_law_draw, defScope s_law_draw, [], []⟩
def d_law_tidy_ : He.DefD := ⟨("_law_tidy", none), "_law_tidy", "_law_tidy", defArgs s_law_tidy, defBody s_law_tidy, defScope s_law_tidy, [], []⟩
def d_law_next_ : He.DefD := ⟨("_law_next", none), "_law_next", "_law_next", defArgs s_law_next, defBody s_law_next, defScope s_law_next, [], []⟩
def d_law_behind_ : He.DefD := ⟨("_law_behind", none), "_law_behind", "_law_behind", defArgs s_law_behind, defBody s_law_behind, defScope s_law_behind, [], []⟩
def d_law_after_ : He.DefD := ⟨("_law_after", none), "_law_after", "_law_after", defArgs s_law_after, defBody s_law_after, defScope s_law_after, [], []⟩
def d_law_is_tick_ : He.DefD := ⟨("_law_is_tick", none), "_law_is_tick", "_law_is_tick", defArgs s_law_is_tick, defBody s_law_is_tick, defScope s_law_is_tick, [], []⟩
def d_law_runs_ : He.DefD := ⟨("_law_runs", none), "_law_runs", "_law_runs", defArgs s_law_runs, defBody s_law_runs, defScope s_law_runs, [], []⟩
def d_law_end_ : He.DefD := ⟨("_law_end", none), "_law_end", "_law_end", defArgs s_law_end, defBody s_law_end, defScope s_law_end, [], []⟩
def d_law_states_ : He.DefD := ⟨("_law_states", none), "_law_states", "_law_states", defArgs s_law_states, defBody s_law_states, defScope s_law_states, [], []⟩
def d_law_rounds_ : He.DefD := ⟨("_law_rounds", none), "_law_rounds", "_law_rounds", defArgs s_law_rounds, defBody s_law_rounds, defScope s_law_rounds, [], []⟩
def d_law_job_ : He.DefD := ⟨("_law_job", none), "_law_job", "_law_job", defArgs s_law_job, defBody s_law_job, defScope s_law_job, [], []⟩
def d_law_some_job_ : He.DefD := ⟨("_law_some_job", none), "_law_some_job", "_law_some_job", defArgs s_law_some_job, defBody s_law_some_job, defScope s_law_some_job, [], []⟩
def d_law_sides_ : He.DefD := ⟨("_law_sides", none), "_law_sides", "_law_sides", defArgs s_law_sides, defBody s_law_sides, defScope s_law_sides, [], []⟩
def d_law_great_ : He.DefD := ⟨("_law_great", none), "_law_great", "_law_great", defArgs s_law_great, defBody s_law_great, defScope s_law_great, [], []⟩
def d_law_is_small_ : He.DefD := ⟨("_law_is_small", none), "_law_is_small", "_law_is_small", defArgs s_law_is_small, defBody s_law_is_small, defScope s_law_is_small, [], []⟩
def d_law_small_job_ : He.DefD := ⟨("_law_small_job", none), "_law_small_job", "_law_small_job", defArgs s_law_small_job, defBody s_law_small_job, defScope s_law_small_job, [], []⟩
def d_law_agrees_ : He.DefD := ⟨("_law_agrees", none), "_law_agrees", "_law_agrees", defArgs s_law_agrees, defBody s_law_agrees, defScope s_law_agrees, [], []⟩
def d_law_ : He.DefD := ⟨("law", none), "law", "law", defArgs s_law, defBody s_law, defScope s_law, [], []⟩
def fn : List He.DefD := [d_tidy_, d_ticks_left_, d_some_steps_, d_loop_steps_, d_beside_steps_, d_steps_of_, d_is_tick_, d_states_of_, d_law_feed_, d_law_draw_, d_law_tidy_, d_law_next_, d_law_behind_, d_law_after_, d_law_is_tick_, d_law_runs_, d_law_end_, d_law_states_, d_law_rounds_, d_law_job_, d_law_some_job_, d_law_sides_, d_law_great_, d_law_is_small_, d_law_small_job_, d_law_agrees_, d_law_]
def fx : List Fx := ([.glo "tidy", .glo "ticks_left", .glo "some_steps", .glo "loop_steps", .glo "beside_steps", .glo "steps_of", .glo "is_tick", .glo "states_of", .glo "_law_feed", .glo "_law_draw", .glo "_law_tidy", .glo "_law_next", .glo "_law_behind", .glo "_law_after", .glo "_law_is_tick", .glo "_law_runs", .glo "_law_end", .glo "_law_states", .glo "_law_rounds", .glo "_law_job", .glo "_law_some_job", .glo "_law_sides", .glo "_law_great", .glo "_law_is_small", .glo "_law_small_job", .glo "_law_agrees", .glo "law", .free "enumerate", .free "int", .free "isinstance"] : List Fx) ++ ([.free "len", .free "list", .free "max", .free "min", .free "range", .free "repr", .free "sorted", .free "sum", .free "tuple", .dat "OVER" (.tup [.str "row", .tup []]), .dat "TICK" (.str "tick"), .dat "MORE" (.str "more"), .dat "END" (.str "end")] : List Fx)
abbrev Rw : PySem.W.OpenRow := PySem.W.OpenLaw.row PySem.Challenge.rw_honestbars_k23_states_told
abbrev hk : PySem.W.Hook := hookX 4 fx fn
def ob (s : PySem.W.SharedT) : He.AlD := obsXG 4 fx fn (HandSHeadRun.getT s)
theorem ob_eq (s : PySem.W.SharedT) : ob s = hk.obs s.abs := obsXG_eq (HandSHeadRun.getT_eq s)
abbrev loose : List Str := (["OVER", "TICK", "MORE", "END", "PLAIN_SIGNS", "NUMBER_SIGNS", "SIDES", "tidy", "ticks_left", "some_steps", "loop_steps", "beside_steps", "steps_of", "is_tick", "states_of", "_law_feed", "_law_draw", "_law_tidy", "_law_next", "_law_behind", "_law_after", "_law_is_tick", "_law_runs", "_law_end", "_law_states", "_law_rounds", "_law_job", "_law_some_job", "_law_sides", "_law_great"] : List Str) ++ (["_law_is_small", "_law_small_job", "_law_agrees", "BarError", "WorkError", "NotUsable", "NotNext"] : List Str)
theorem run (w : World) : HandSHeadRun.RunEq Rw (PySem.W.view Rw.prog [34]) hk ob 8000 loose w := by
  intro os
  kernel_rfl
open PySem PySem.W PySem.Calls PyProof.Rows in
theorem head_of {sp : DSp} (hsp : ∀ ns : List Int, ns.length ≤ 63 → sp [.scr ns] (fun _ => none) (fun d _ => d = .bl true) noX)
    (F : ∀ (w : World) (mg : Str → Option Value) (fa : Addr) (h : Heap) (K : PySem.W.Frag), K.In h → SaysX fx fn K → h.Ns mainGlobals mg → mg ("law" : Str) = some (.ref fa) →
      ∃ fd : FuncData, (∀ (s : Shared) (v : Value), BindsTo s fd ⟨[v], []⟩ [("_law_script", v)]) ∧ ∀ base : Heap, K.In base → base.Ns mainGlobals mg → DFn (PySem.Challenge.rw_honestbars_k23_states_told).prog w K mg base 177 fa fd ["_law_script"] sp) : PySem.Challenge.rw_honestbars_k23_states_told.Holds := by
  w_on; o_law
  refine HandSHeadRun.head_any (r := OpenLaw.row PySem.Challenge.rw_honestbars_k23_states_told) (q := view (OpenLaw.row PySem.Challenge.rw_honestbars_k23_states_told).prog [34]) (H := K23.hk) (ob := K23.ob) (M := 8000) (loose := K23.loose) (d := HandSHeadRun.topDef (OpenLaw.row PySem.Challenge.rw_honestbars_k23_states_told).prog 34) (kwd := []) K23.ob_eq
    (by kernel_rfl) (fun s => by kernel_rfl) K23.run (by kernel_rfl) (by kernel_rfl) (by kernel_rfl) (by rfl) (by first | assumption | decide +kernel) (by decide +kernel) ⟨rfl, rfl, rfl, rfl, rfl, by decide +kernel⟩ ?hw ?hc
  case hw => w_witness2
  case hc =>
    refine Dl.d_walk (l := PySem.Challenge.rw_honestbars_k23_states_told) (n := 63) (k := 177) (x := "_law_script") rfl (by decide) (by kernel_rfl) ⟨rfl, by decide, by decide⟩ rfl ?F
    intro w mg fa h Y G hmg0
    obtain ⟨K, KX, c⟩ := Y
    have hmg : mg ("law" : PySem.Str) = some (.ref fa) := by
      have e : (HandSHeadRun.topDef (OpenLaw.row PySem.Challenge.rw_honestbars_k23_states_told).prog 34).name = ("law" : PySem.Str) := by kernel_rfl
      rw [← e]
      exact hmg0
    obtain ⟨fd, hb, hF⟩ := F w mg fa h K KX c G hmg
    exact ⟨K, fd, sp, KX, hb, hsp, hF⟩
end K23

namespace Dl
open PySem L2
@[simp] theorem ofString_inj {a b : String} : (Str.ofString a = Str.ofString b) ↔ a = b := by
  rw [Str.ofString_eq_toList, Str.ofString_eq_toList]
  constructor
  · intro h
    have h1 : (a.toList.map Char.toNat).toArray = (b.toList.map Char.toNat).toArray := by injection h
    have h2 : a.toList.map Char.toNat = b.toList.map Char.toNat := by injection h1
    have h3 : a.toList = b.toList := by
      refine List.map_inj_right (f := Char.toNat) ?_ |>.mp h2
      intro x y e
      exact Char.ext (UInt32.toNat_inj.mp e)
    exact String.toList_inj.mp h3
  · rintro rfl; rfl
def Grow (G G' : GH) : Prop := ∀ a o, G a = some o → G' a = some o
theorem Grow.refl (G : GH) : Grow G G := fun _ _ h => h
theorem Grow.trans {G G1 G2 : GH} (h : Grow G G1) (k : Grow G1 G2) : Grow G G2 := fun a o e => k a o (h a o e)
theorem Grow.upd {G : GH} {p : Addr} {o : DO} (h : G p = none) : Grow G (updG G p o) := fun a u e => by
  rw [updG_ne]; exact e
  rintro rfl; rw [h] at e; cases e
theorem Grow.upd2 {G G' : GH} {p : Addr} {o : DO} (h : G p = none) (k : Grow G G') : Grow G (updG G' p o) := fun a u e => by
  rw [updG_ne]; exact k a u e
  rintro rfl; rw [h] at e; cases e
theorem Grow.drop {G G' : GH} {p : Addr} (h : G p = none) (k : Grow G G') : Grow G (dropG G' p) := fun a u e => by
  rw [dropG_ne]; exact k a u e
  rintro rfl; rw [h] at e; cases e
def pSp (R : List D → D → Prop) : DSp := fun ds G Q _ => ∃ d, R ds d ∧ ∀ G', Grow G G' → Q d G'
theorem dWhile_of {c : DTT} {tb : DTS} {E : DEnds} {I : Nat → DSt → GH → Prop}
    (h : ∀ n ρ G, I n ρ G → ∀ K : DSt → GH → Prop, (∀ m, m + 1 = n → ∀ ρ' G', I m ρ' G' → K ρ' G') → c ρ G fun b G1 => if b = true then tb { E with nx := K, ct := K, bk := E.nx } ρ G1 else E.nx ρ G1) :
    ∀ n ρ G, I n ρ G → dWhile c tb E ρ G := by
  have key : ∀ n ρ G, I n ρ G → dWhileGo c tb (n + 1) E ρ G := by
    intro n
    induction n with
    | zero => intro ρ G i; unfold dWhileGo; exact h 0 ρ G i _ (fun m e => by omega)
    | succ n ih =>
      intro ρ G i
      unfold dWhileGo
      refine h _ ρ G i _ ?_
      intro m e ρ' G' j
      have e2 : m = n := by omega
      subst e2
      exact ih ρ' G' j
  exact fun n ρ G i => ⟨n + 1, key n ρ G i⟩
theorem dForGo_of {ok : GH → Prop} {g : DTG} {tb : DTS} {E : DEnds} {I : List D → DSt → GH → Prop}
    (h0 : ∀ ρ G, I [] ρ G → ok G ∧ E.nx ρ G)
    (h : ∀ x xs ρ G, I (x :: xs) ρ G → ∀ K : DSt → GH → Prop, (∀ ρ' G', I xs ρ' G' → K ρ' G') → ok G ∧ g x ρ G fun ρ2 G2 => tb { E with nx := K, ct := K, bk := E.nx } ρ2 G2) :
    ∀ items ρ G, I items ρ G → dForGo ok g tb items E ρ G := by
  intro items
  induction items with
  | nil => intro ρ G i; unfold dForGo; exact h0 ρ G i
  | cons x xs ih => intro ρ G i; unfold dForGo; exact h x xs ρ G i _ ih
theorem dLcGo_of {ok : GH → Prop} {ct : CT} {te : DTE} {ρ : DSt} {p : Addr} {Q : DK} {I : List D → List D → GH → Prop}
    (h0 : ∀ acc G, I [] acc G → ok G ∧ Q (.ref p) G)
    (h : ∀ x xs acc G, I (x :: xs) acc G → ok G ∧ ∃ ρ2, bindC ct x ρ = some ρ2 ∧ ∀ K : DK, (∀ y G4, G4 p = some (.lst acc) → acc.length < sizeLine → I xs (acc ++ [y]) (updG G4 p (.lst (acc ++ [y]))) → K y G4) → te ρ2 G K) :
    ∀ items acc G, I items acc G → dLcGo ok ct dYes te ρ p items G Q := by
  intro items
  induction items with
  | nil => intro acc G i; unfold dLcGo; exact h0 acc G i
  | cons x xs ih =>
    intro acc G i
    unfold dLcGo
    obtain ⟨a, ρ2, e, k⟩ := h x xs acc G i
    refine ⟨a, ?_⟩
    rw [e]
    simp only [dYes, if_true]
    refine k _ ?_
    intro y G4 e4 hl j
    rw [e4]
    exact ⟨hl, ih _ _ j⟩
def PureE (te : DTE) (ct : CT) (ρ : DSt) (x y : D) : Prop := ∃ ρ2, bindC ct x ρ = some ρ2 ∧ ∀ (G : GH) (K : DK), (∀ G', Grow G G' → K y G') → te ρ2 G K
mutual
/-- plain data with ints of few digits -/
def smD : D → Bool
  | .non => true
  | .bl _ => true
  | .int i => decide (i.natAbs < 10 ^ 12)
  | .str x => PyData.strOk x
  | .tup ds => smDs ds
  | .lst ds => smDs ds
  | _ => false
def smDs : List D → Bool
  | [] => true
  | d :: ds => smD d && smDs ds
end
mutual
def wtD : D → Nat
  | .str x => x.length
  | .int _ => 40
  | .tup ds => wtDs ds
  | .lst ds => wtDs ds
  | _ => 0
def wtDs : List D → Nat
  | [] => 0
  | d :: ds => wtD d + 1 + wtDs ds
end
mutual
theorem sm_pure : ∀ d : D, smD d = true → pureD d = true
  | .non, _ => by simp [pureD]
  | .bl _, _ => by simp [pureD]
  | .int _, _ => by simp [pureD]
  | .str x, h => by simpa [pureD, smD] using h
  | .tup ds, h => by simpa [pureD] using sms_pure ds (by simpa [smD] using h)
  | .lst ds, h => by simpa [pureD] using sms_pure ds (by simpa [smD] using h)
  | .byt _, h => by simp [smD] at h
  | .ref _, h => by simp [smD] at h
  | .scr _, h => by simp [smD] at h
theorem sms_pure : ∀ ds : List D, smDs ds = true → pureDs ds = true
  | [], _ => by simp [pureDs]
  | d :: ds, h => by
    simp only [smDs, Bool.and_eq_true] at h
    simp [pureDs, sm_pure d h.1, sms_pure ds h.2]
end
theorem log_small {i : Int} (h : i.natAbs < 10 ^ 12) : i.natAbs.log2 < 40 := by
  by_cases e : i.natAbs = 0
  · rw [e]; decide
  · exact (Nat.log2_lt e).mpr (Nat.lt_of_lt_of_le h (by decide))
mutual
theorem sm_few : ∀ d : D, smD d = true → fewD d = true
  | .non, _ => by simp [fewD]
  | .bl _, _ => by simp [fewD]
  | .int i, h => by
    simp only [smD, decide_eq_true_eq] at h
    have := log_small h
    simp only [fewD, decide_eq_true_eq]
    omega
  | .str x, h => by simp [fewD]
  | .tup ds, h => by simpa [fewD] using sms_few ds (by simpa [smD] using h)
  | .lst ds, h => by simpa [fewD] using sms_few ds (by simpa [smD] using h)
  | .byt _, h => by simp [smD] at h
  | .ref _, h => by simp [smD] at h
  | .scr _, h => by simp [smD] at h
theorem sms_few : ∀ ds : List D, smDs ds = true → fewDs ds = true
  | [], _ => by simp [fewDs]
  | d :: ds, h => by
    simp only [smDs, Bool.and_eq_true] at h
    simp [fewDs, sm_few d h.1, sms_few ds h.2]
end
mutual
theorem sm_short : ∀ d : D, smD d = true → (pyD d).intsShort 13 = true
  | .non, _ => by simp [pyD, PyData.intsShort]
  | .bl _, _ => by simp [pyD, PyData.intsShort]
  | .int i, h => by
    simp only [smD, decide_eq_true_eq] at h
    simp only [pyD, PyData.intsShort, decide_eq_true_eq]
    exact PyData.shown_int_le h
  | .str x, h => by simp [pyD, PyData.intsShort]
  | .tup ds, h => by simpa [pyD, PyData.intsShort] using sms_short ds (by simpa [smD] using h)
  | .lst ds, h => by simpa [pyD, PyData.intsShort] using sms_short ds (by simpa [smD] using h)
  | .byt _, h => by simp [smD] at h
  | .ref _, h => by simp [smD] at h
  | .scr _, h => by simp [smD] at h
theorem sms_short : ∀ ds : List D, smDs ds = true → PyData.intsShortAll 13 (pyDs ds) = true
  | [], _ => by simp [pyDs, PyData.intsShortAll]
  | d :: ds, h => by
    simp only [smDs, Bool.and_eq_true] at h
    simp [pyDs, PyData.intsShortAll, sm_short d h.1, sms_short ds h.2]
end
mutual
theorem sm_weight : ∀ d : D, smD d = true → (pyD d).weight ≤ wtD d
  | .non, _ => by simp [pyD, PyData.weight]
  | .bl _, _ => by simp [pyD, PyData.weight]
  | .int i, h => by
    simp only [smD, decide_eq_true_eq] at h
    have := log_small h
    simp only [pyD, PyData.weight, wtD]
    split <;> omega
  | .str x, h => by simp [pyD, PyData.weight, wtD, Str.length]
  | .tup ds, h => by simpa [pyD, PyData.weight, wtD] using sms_weight ds (by simpa [smD] using h)
  | .lst ds, h => by simpa [pyD, PyData.weight, wtD] using sms_weight ds (by simpa [smD] using h)
  | .byt _, h => by simp [smD] at h
  | .ref _, h => by simp [smD] at h
  | .scr _, h => by simp [smD] at h
theorem sms_weight : ∀ ds : List D, smDs ds = true → PyData.weightAll (pyDs ds) ≤ wtDs ds
  | [], _ => by simp [pyDs, PyData.weightAll]
  | d :: ds, h => by
    simp only [smDs, Bool.and_eq_true] at h
    have h1 := sm_weight d h.1
    have h2 := sms_weight ds h.2
    simp only [pyDs, PyData.weightAll, wtDs]
    omega
end
theorem okD_of {d : D} (h : smD d = true) (k : depD d ≤ 64) : okD d := ⟨sm_pure d h, k⟩
theorem shw_of {d : D} (hs : isSeqD d = true) (h : smD d = true) (k : depD d ≤ 64) (z : wtD d ≤ 2 ^ 20) : Shw d := by
  refine ⟨hs, okD_of h k, sm_few d h, ?_⟩
  have e := sm_weight d h
  have hl : PyData.layable0 (pyD d) = true := by
    unfold PyData.layable0
    rw [lay_py d (sm_pure d h), depth_py, decide_eq_true k, decide_eq_true (by omega)]
    rfl
  have := PyProof.Rows.shown_le13 hl (sm_short d h)
  unfold shD
  have e2 : sizeLine = 16777216 := by decide
  omega
theorem ixN_at {n j : Nat} (hj : j < n) : ixN n (j : Int) = some j := by
  unfold ixN
  rw [if_pos (Int.natCast_nonneg j), if_pos (by omega)]
  simp
theorem atI_nat {α : Type} {xs : List α} {i : Nat} {x : α} (h : xs[i]? = some x) : atI xs (i : Int) = some x := by
  have hl : i < xs.length := by
    rcases Nat.lt_or_ge i xs.length with q | q
    · exact q
    · rw [List.getElem?_eq_none q] at h; cases h
  unfold atI
  rw [ixN_at hl]
  exact h
@[simp] theorem atI_0 {α : Type} {x : α} {xs : List α} : atI (x :: xs) 0 = some x := atI_nat (i := 0) rfl
@[simp] theorem atI_1 {α : Type} {x y : α} {xs : List α} : atI (x :: y :: xs) 1 = some y := atI_nat (i := 1) rfl
@[simp] theorem atI_2 {α : Type} {x y z : α} {xs : List α} : atI (x :: y :: z :: xs) 2 = some z := atI_nat (i := 2) rfl
@[simp] theorem atI_3 {α : Type} {x y z u : α} {xs : List α} : atI (x :: y :: z :: u :: xs) 3 = some u := atI_nat (i := 3) rfl
@[simp] theorem atI_4 {α : Type} {x y z u v : α} {xs : List α} : atI (x :: y :: z :: u :: v :: xs) 4 = some v := atI_nat (i := 4) rfl
end Dl

namespace Dl
open PySem L2
inductive Wk where
  | tick (n : Int)
  | sme (a b : Int) (t : Bool)
  | lop (a b : Int) (t : Bool) (w : Wk)
  | eit (ws : List Wk)
  | row (ws : List Wk)
  | bes (a b : Wk)
mutual
def toD : Wk → D
  | .tick n => .tup [.str "tick", .int n]
  | .sme a b t => .tup [.str "some", .int a, .int b, .bl t]
  | .lop a b t w => .tup [.str "loop", .int a, .int b, .bl t, toD w]
  | .eit ws => .tup [.str "either", .tup (toDs ws)]
  | .row ws => .tup [.str "row", .tup (toDs ws)]
  | .bes a b => .tup [.str "beside", toD a, toD b]
def toDs : List Wk → List D
  | [] => []
  | w :: ws => toD w :: toDs ws
end
theorem toDs_map : ∀ ws : List Wk, toDs ws = ws.map toD
  | [] => by simp [toDs]
  | w :: ws => by simp [toDs, toDs_map ws]
@[simp] theorem toDs_len (ws : List Wk) : (toDs ws).length = ws.length := by rw [toDs_map]; simp
theorem toDs_app (a b : List Wk) : toDs (a ++ b) = toDs a ++ toDs b := by simp [toDs_map]
inductive Sg where
  | tick
  | more
  | fin
  | many (n : Int)
  | way (i : Nat)
  | left (s : Sg)
  | right (s : Sg)
def sgD : Sg → D
  | .tick => .str "tick"
  | .more => .str "more"
  | .fin => .str "end"
  | .many n => .tup [.str "many", .int n]
  | .way i => .tup [.str "way", .int (i : Nat)]
  | .left s => .tup [.str "left", sgD s]
  | .right s => .tup [.str "right", sgD s]
def isOver : Wk → Bool
  | .row [] => true
  | _ => false
def inRow : Wk → List Wk
  | .row us => us
  | x => [x]
def mkRow : List Wk → Wk
  | [w] => w
  | ws => .row ws
mutual
def tidyW : Wk → Wk
  | .bes a b => if isOver (tidyW a) && isOver (tidyW b) then .row [] else .bes (tidyW a) (tidyW b)
  | .row ws => mkRow (flatW ws)
  | w => w
def flatW : List Wk → List Wk
  | [] => []
  | w :: ws => inRow (tidyW w) ++ flatW ws
end
def manyS (a b : Int) : List Sg := (List.range (b + 1 - a).toNat).map fun i => Sg.many (a + (i : Nat))
mutual
def nxW : Wk → List Sg
  | .tick _ => [.tick]
  | .sme a b t => if t then manyS a b else (if 0 < b then [.tick] else []) ++ (if a = 0 then [.fin] else [])
  | .lop a b t _ => if t then manyS a b else (if 0 < b then [.more] else []) ++ (if a = 0 then [.fin] else [])
  | .eit ws => (List.range ws.length).map Sg.way
  | .row ws => nxWs ws
  | .bes a b => (nxW a).map .left ++ (nxW b).map .right
def nxWs : List Wk → List Sg
  | [] => []
  | w :: _ => nxW w
end
def tkW (n : Int) : Wk := if 0 < n then .tick n else .row []
def dec0 (a : Int) : Int := if a - 1 > 0 then a - 1 else 0
mutual
def behW : Wk → Sg → Wk
  | .tick n, _ => tkW (n - 1)
  | .sme _ _ true, .many n => tkW n
  | .sme a b false, .tick => .sme (dec0 a) (b - 1) false
  | .lop _ _ true w, .many n => .row (List.replicate n.toNat w)
  | .lop a b false w, .more => .row [w, .lop (dec0 a) (b - 1) false w]
  | .eit ws, .way i => ws.getD i (.row [])
  | .row ws, s => .row (behWs ws s)
  | .bes a b, .left s => .bes (behW a s) b
  | .bes a b, .right s => .bes a (behW b s)
  | _, _ => .row []
def behWs : List Wk → Sg → List Wk
  | [], _ => []
  | w :: ws, s => behW w s :: ws
end
mutual
/-- numbers from 0 to B, in order; ticks at least 1; a way at least -/
def okW (B : Int) : Wk → Prop
  | .tick n => 1 ≤ n ∧ n ≤ B
  | .sme a b _ => 0 ≤ a ∧ a ≤ b ∧ b ≤ B
  | .lop a b _ w => 0 ≤ a ∧ a ≤ b ∧ b ≤ B ∧ okW B w
  | .eit ws => ws ≠ [] ∧ okWs B ws
  | .row ws => okWs B ws
  | .bes a b => okW B a ∧ okW B b
def okWs (B : Int) : List Wk → Prop
  | [] => True
  | w :: ws => okW B w ∧ okWs B ws
end
mutual
/-- the most that may stand there at once, loops unrolled -/
def zW : Wk → Nat
  | .tick _ => 2
  | .sme _ _ _ => 2
  | .lop _ b _ w => 2 + (b.toNat + 1) * (zW w + 1)
  | .eit ws => 1 + zWs ws
  | .row ws => 1 + zWs ws
  | .bes a b => 1 + zW a + zW b
def zWs : List Wk → Nat
  | [] => 0
  | w :: ws => zW w + zWs ws
end
mutual
/-- tuples within one another -/
def dpW : Wk → Nat
  | .tick _ => 1
  | .sme _ _ _ => 1
  | .lop _ _ _ w => 1 + dpW w
  | .eit ws => 2 + dpWs ws
  | .row ws => 2 + dpWs ws
  | .bes a b => 1 + max (dpW a) (dpW b)
def dpWs : List Wk → Nat
  | [] => 0
  | w :: ws => max (dpW w) (dpWs ws)
end
theorem okWs_iff {B : Int} : ∀ {ws : List Wk}, okWs B ws ↔ ∀ w ∈ ws, okW B w
  | [] => by simp [okWs]
  | w :: ws => by simp [okWs, okWs_iff (ws := ws)]
theorem zWs_app (a b : List Wk) : zWs (a ++ b) = zWs a + zWs b := by
  induction a with
  | nil => simp [zWs]
  | cons x xs ih => simp only [List.cons_append, zWs, ih]; omega
theorem zW_pos : ∀ w : Wk, 1 ≤ zW w := by
  intro w; cases w <;> simp only [zW] <;> omega
theorem len_zWs : ∀ ws : List Wk, ws.length ≤ zWs ws
  | [] => by simp [zWs]
  | w :: ws => by have := len_zWs ws; have := zW_pos w; simp only [zWs, List.length_cons]; omega
theorem zWs_mem : ∀ {ws : List Wk} {w : Wk}, w ∈ ws → zW w ≤ zWs ws
  | x :: xs, w, h => by
    rcases List.mem_cons.mp h with e | e
    · subst e; simp only [zWs]; omega
    · have := zWs_mem e; simp only [zWs]; omega
theorem dpWs_mem : ∀ {ws : List Wk} {w : Wk}, w ∈ ws → dpW w ≤ dpWs ws
  | x :: xs, w, h => by
    rcases List.mem_cons.mp h with e | e
    · subst e; simp only [dpWs]; omega
    · have := dpWs_mem e; simp only [dpWs]; omega
theorem dpWs_app (a b : List Wk) : dpWs (a ++ b) = max (dpWs a) (dpWs b) := by
  induction a with
  | nil => simp [dpWs]
  | cons x xs ih => simp only [List.cons_append, dpWs, ih]; omega
theorem mkRow_cases (ws : List Wk) : (∃ w, ws = [w] ∧ mkRow ws = w) ∨ mkRow ws = .row ws := by
  cases ws with
  | nil => exact .inr rfl
  | cons w ws => cases ws with
    | nil => exact .inl ⟨w, rfl, rfl⟩
    | cons => exact .inr rfl
theorem inRow_ok {B : Int} {w : Wk} (h : okW B w) : okWs B (inRow w) := by
  cases w <;> simp only [inRow, okWs] <;> first | exact ⟨h, trivial⟩ | (simpa [okW] using h)
theorem okWs_app {B : Int} {a b : List Wk} (h : okWs B a) (k : okWs B b) : okWs B (a ++ b) := by
  rw [okWs_iff] at *
  intro w hw
  rcases List.mem_append.mp hw with e | e
  · exact h w e
  · exact k w e
mutual
theorem tidy_ok {B : Int} : ∀ w : Wk, okW B w → okW B (tidyW w)
  | .tick _, h => by simpa [tidyW] using h
  | .sme _ _ _, h => by simpa [tidyW] using h
  | .lop _ _ _ _, h => by simpa [tidyW] using h
  | .eit _, h => by simpa [tidyW] using h
  | .row ws, h => by
    have k := flat_ok ws (by simpa [okW] using h)
    rcases mkRow_cases (flatW ws) with ⟨w, e, f⟩ | f
    · rw [tidyW, f]; rw [e] at k; exact k.1
    · rw [tidyW, f]; simpa [okW] using k
  | .bes a b, h => by
    rw [okW] at h
    have h1 := tidy_ok a h.1
    have h2 := tidy_ok b h.2
    rw [tidyW]
    split
    · simp [okW, okWs]
    · simp [okW, h1, h2]
theorem flat_ok {B : Int} : ∀ ws : List Wk, okWs B ws → okWs B (flatW ws)
  | [], _ => by simp [flatW, okWs]
  | w :: ws, h => by
    rw [okWs] at h
    rw [flatW]
    exact okWs_app (inRow_ok (tidy_ok w h.1)) (flat_ok ws h.2)
end
theorem inRow_z {w : Wk} : zWs (inRow w) ≤ zW w := by
  cases w <;> simp only [inRow, zWs, zW] <;> omega
mutual
theorem tidy_z : ∀ w : Wk, zW (tidyW w) ≤ zW w
  | .tick _ => by simp [tidyW]
  | .sme _ _ _ => by simp [tidyW]
  | .lop _ _ _ _ => by simp [tidyW]
  | .eit _ => by simp [tidyW]
  | .row ws => by
    have k := flat_z ws
    rcases mkRow_cases (flatW ws) with ⟨w, e, f⟩ | f
    · rw [tidyW, f]; rw [e] at k; simp only [zWs, zW] at k ⊢; omega
    · rw [tidyW, f]; simp only [zW]; omega
  | .bes a b => by
    have h1 := tidy_z a
    have h2 := tidy_z b
    rw [tidyW]
    split
    · simp only [zW, zWs]; omega
    · simp only [zW]; omega
theorem flat_z : ∀ ws : List Wk, zWs (flatW ws) ≤ zWs ws
  | [] => by simp [flatW]
  | w :: ws => by
    have h1 := tidy_z w
    have h2 := flat_z ws
    have h3 := inRow_z (w := tidyW w)
    rw [flatW, zWs_app, zWs]
    omega
end
theorem inRow_dp {w : Wk} : dpWs (inRow w) ≤ dpW w := by
  cases w <;> simp only [inRow, dpWs, dpW] <;> omega
mutual
theorem tidy_dp : ∀ w : Wk, dpW (tidyW w) ≤ dpW w
  | .tick _ => by simp [tidyW]
  | .sme _ _ _ => by simp [tidyW]
  | .lop _ _ _ _ => by simp [tidyW]
  | .eit _ => by simp [tidyW]
  | .row ws => by
    have k := flat_dp ws
    rcases mkRow_cases (flatW ws) with ⟨w, e, f⟩ | f
    · rw [tidyW, f]; rw [e] at k; simp only [dpWs, dpW] at k ⊢; omega
    · rw [tidyW, f]; simp only [dpW]; omega
  | .bes a b => by
    have h1 := tidy_dp a
    have h2 := tidy_dp b
    have h3 : 1 ≤ dpW a := by cases a <;> simp only [dpW] <;> omega
    rw [tidyW]
    split
    · simp only [dpW, dpWs]; omega
    · simp only [dpW]; omega
theorem flat_dp : ∀ ws : List Wk, dpWs (flatW ws) ≤ dpWs ws
  | [] => by simp [flatW]
  | w :: ws => by
    have h1 := tidy_dp w
    have h2 := flat_dp ws
    have h3 := inRow_dp (w := tidyW w)
    rw [flatW, dpWs_app, dpWs]
    omega
end
mutual
def pW : Wk → Nat
  | .tick _ => 3
  | .sme _ _ _ => 3
  | .lop _ _ _ w => 3 + max (dpW w) (pW w)
  | .eit ws => 4 + max (dpWs ws) (pWs ws)
  | .row ws => pWs ws
  | .bes a b => 3 + max (pW a) (pW b)
def pWs : List Wk → Nat
  | [] => 2
  | w :: ws => max (pW w) (pWs ws)
end
theorem two_pWs : ∀ ws : List Wk, 2 ≤ pWs ws
  | [] => by simp [pWs]
  | w :: ws => by have := two_pWs ws; simp only [pWs]; omega
theorem two_pW : ∀ w : Wk, 2 ≤ pW w := by
  intro w; cases w <;> simp only [pW] <;> first | omega | exact two_pWs _
theorem pWs_app (a b : List Wk) : pWs (a ++ b) = max (pWs a) (pWs b) := by
  induction a with
  | nil => have := two_pWs b; simp only [List.nil_append, pWs]; omega
  | cons x xs ih => simp only [List.cons_append, pWs, ih]; omega
theorem inRow_p {w : Wk} : pWs (inRow w) ≤ pW w := by
  have := two_pW w
  cases w <;> simp only [inRow, pWs, pW] at * <;> omega
mutual
theorem tidy_p : ∀ w : Wk, pW (tidyW w) ≤ pW w
  | .tick _ => by simp [tidyW]
  | .sme _ _ _ => by simp [tidyW]
  | .lop _ _ _ _ => by simp [tidyW]
  | .eit _ => by simp [tidyW]
  | .row ws => by
    have k := flat_p ws
    rcases mkRow_cases (flatW ws) with ⟨w, e, f⟩ | f
    · rw [tidyW, f]; rw [e] at k; simp only [pWs, pW] at k ⊢; omega
    · rw [tidyW, f]; simp only [pW]; omega
  | .bes a b => by
    have h1 := tidy_p a
    have h2 := tidy_p b
    rw [tidyW]
    split
    · simp only [pW, pWs]; omega
    · simp only [pW]; omega
theorem flat_p : ∀ ws : List Wk, pWs (flatW ws) ≤ pWs ws
  | [] => by simp [flatW]
  | w :: ws => by
    have h1 := tidy_p w
    have h2 := flat_p ws
    have h3 := inRow_p (w := tidyW w)
    rw [flatW, pWs_app, pWs]
    omega
end
mutual
theorem tidy_dp_p : ∀ w : Wk, dpW (tidyW w) ≤ pW w ∧ 2 + dpWs (inRow (tidyW w)) ≤ pW w
  | .tick _ => by simp [tidyW, inRow, dpWs, dpW, pW]
  | .sme _ _ _ => by simp [tidyW, inRow, dpWs, dpW, pW]
  | .lop _ _ _ _ => by simp only [tidyW, inRow, dpWs, dpW, pW]; omega
  | .eit _ => by simp only [tidyW, inRow, dpWs, dpW, pW]; omega
  | .row ws => by
    have k := flat_dp_p ws
    rcases mkRow_cases (flatW ws) with ⟨w, e, f⟩ | f
    · rw [tidyW, f]
      rw [e] at k
      have := inRow_dp (w := w)
      simp only [dpWs, dpW, pW] at k ⊢
      omega
    · rw [tidyW, f]; simp only [dpW, pW, inRow]; omega
  | .bes a b => by
    have h1 := tidy_dp_p a
    have h2 := tidy_dp_p b
    rw [tidyW]
    split
    · simp only [dpW, dpWs, pW, inRow]; omega
    · simp only [dpW, pW, inRow, dpWs]; omega
theorem flat_dp_p : ∀ ws : List Wk, 2 + dpWs (flatW ws) ≤ pWs ws
  | [] => by simp [flatW, dpWs, pWs]
  | w :: ws => by
    have h1 := tidy_dp_p w
    have h2 := flat_dp_p ws
    rw [flatW, dpWs_app, pWs]
    omega
end
theorem manyS_mem {a b : Int} {s : Sg} (h : s ∈ manyS a b) : ∃ n : Int, s = .many n ∧ a ≤ n ∧ n ≤ b := by
  unfold manyS at h
  obtain ⟨i, hi, rfl⟩ := List.mem_map.mp h
  rw [List.mem_range] at hi
  exact ⟨_, rfl, by omega, by omega⟩
theorem zWs_rep (n : Nat) (w : Wk) : zWs (List.replicate n w) = n * zW w := by
  induction n with
  | zero => simp [zWs]
  | succ n ih => rw [List.replicate_succ, zWs, ih, Nat.succ_mul]; omega
theorem okWs_rep {B : Int} (n : Nat) {w : Wk} (h : okW B w) : okWs B (List.replicate n w) := by
  rw [okWs_iff]; intro x hx; rw [List.eq_of_mem_replicate hx]; exact h
theorem dpWs_rep (n : Nat) (w : Wk) : dpWs (List.replicate n w) ≤ dpW w := by
  induction n with
  | zero => simp [dpWs]
  | succ n ih => rw [List.replicate_succ, dpWs]; omega
theorem pWs_rep (n : Nat) (w : Wk) : pWs (List.replicate n w) ≤ pW w := by
  induction n with
  | zero => simpa [pWs] using two_pW w
  | succ n ih => rw [List.replicate_succ, pWs]; omega
theorem pWs_mem : ∀ {ws : List Wk} {w : Wk}, w ∈ ws → pW w ≤ pWs ws
  | x :: xs, w, h => by
    rcases List.mem_cons.mp h with e | e
    · subst e; simp only [pWs]; omega
    · have := pWs_mem e; simp only [pWs]; omega
structure Bh (B : Int) (w v : Wk) : Prop where
  ok : okW B v
  z : zW v ≤ zW w
  dp : dpW v ≤ dpW w + 2
  p : pW v ≤ pW w
theorem bh_over {B : Int} {w : Wk} : Bh B w (.row []) := by
  refine ⟨by simp [okW, okWs], ?_, ?_, ?_⟩
  · have := zW_pos w; simp only [zW, zWs]; omega
  · have h3 : 1 ≤ dpW w := by cases w <;> simp only [dpW] <;> omega
    simp only [dpW, dpWs]; omega
  · have := two_pW w; simp only [pW, pWs]; omega
theorem bh_tk {B : Int} {w : Wk} {n : Int} (hn : n ≤ B) (h2 : 2 ≤ zW w) (h3 : 3 ≤ pW w) (hd : 1 ≤ dpW w) : Bh B w (tkW n) := by
  unfold tkW
  split
  · exact ⟨by rw [okW]; omega, by rw [zW]; omega, by rw [dpW]; omega, by rw [pW]; omega⟩
  · exact bh_over
mutual
theorem beh_ok {B : Int} : ∀ (w : Wk) (s : Sg), okW B w → s ∈ nxW w → Bh B w (behW w s)
  | .tick n, s, h, hs => by
    rw [okW] at h
    rw [show behW (.tick n) s = tkW (n - 1) from by simp [behW]]
    exact bh_tk (by omega) (by simp [zW]) (by simp [pW]) (by simp [dpW])
  | .sme a b true, s, h, hs => by
    rw [okW] at h
    rw [nxW, if_pos rfl] at hs
    obtain ⟨n, rfl, h1, h2⟩ := manyS_mem hs
    rw [show behW (.sme a b true) (.many n) = tkW n from by simp [behW]]
    exact bh_tk (by omega) (by simp [zW]) (by simp [pW]) (by simp [dpW])
  | .sme a b false, s, h, hs => by
    rw [okW] at h
    rw [nxW, if_neg (by decide)] at hs
    rcases List.mem_append.mp hs with q | q
    · split at q
      · rw [List.mem_singleton] at q; subst q
        rw [show behW (.sme a b false) .tick = .sme (dec0 a) (b - 1) false from by simp [behW]]
        refine ⟨?_, by simp [zW], by simp [dpW], by simp [pW]⟩
        rw [okW]; unfold dec0; split <;> omega
      · cases q
    · split at q
      · rw [List.mem_singleton] at q; subst q
        rw [show behW (.sme a b false) .fin = .row [] from by simp [behW]]
        exact bh_over
      · cases q
  | .lop a b true w, s, h, hs => by
    rw [okW] at h
    rw [nxW, if_pos rfl] at hs
    obtain ⟨n, rfl, h1, h2⟩ := manyS_mem hs
    rw [show behW (.lop a b true w) (.many n) = .row (List.replicate n.toNat w) from by simp [behW]]
    refine ⟨by rw [okW]; exact okWs_rep _ h.2.2.2, ?_, ?_, ?_⟩
    · rw [zW, zW, zWs_rep]
      have : n.toNat * zW w ≤ (b.toNat + 1) * (zW w + 1) := Nat.mul_le_mul (by omega) (by omega)
      omega
    · have := dpWs_rep n.toNat w
      rw [dpW, dpW]; omega
    · have := pWs_rep n.toNat w
      rw [pW, pW]; omega
  | .lop a b false w, s, h, hs => by
    rw [okW] at h
    rw [nxW, if_neg (by decide)] at hs
    rcases List.mem_append.mp hs with q | q
    · split at q
      · rename_i hb
        rw [List.mem_singleton] at q; subst q
        rw [show behW (.lop a b false w) .more = .row [w, .lop (dec0 a) (b - 1) false w] from by simp [behW]]
        refine ⟨?_, ?_, ?_, ?_⟩
        · simp only [okW, okWs]; unfold dec0; refine ⟨h.2.2.2, ⟨?_, ?_, ?_, h.2.2.2⟩, trivial⟩ <;> (try split) <;> omega
        · obtain ⟨m, hm⟩ : ∃ m, b.toNat = m + 1 := ⟨b.toNat - 1, by omega⟩
          have hm2 : (b - 1).toNat = m := by omega
          simp only [zW, zWs, hm, hm2, Nat.add_mul, Nat.mul_add]; omega
        · simp only [dpW, dpWs]; omega
        · have := two_pW w; simp only [pW, pWs]; omega
      · cases q
    · split at q
      · rw [List.mem_singleton] at q; subst q
        rw [show behW (.lop a b false w) .fin = .row [] from by simp [behW]]
        exact bh_over
      · cases q
  | .eit ws, s, h, hs => by
    rw [okW] at h
    rw [nxW] at hs
    obtain ⟨i, hi, rfl⟩ := List.mem_map.mp hs
    rw [List.mem_range] at hi
    have e : ws.getD i (.row []) = ws[i] := by simp [List.getD, hi]
    rw [show behW (.eit ws) (.way i) = ws.getD i (.row []) from by simp [behW], e]
    have m : ws[i] ∈ ws := List.getElem_mem hi
    have h1 := zWs_mem m
    have h2 := dpWs_mem m
    have h3 := pWs_mem m
    exact ⟨okWs_iff.mp h.2 _ m, by rw [zW]; omega, by rw [dpW]; omega, by rw [pW]; omega⟩
  | .row ws, s, h, hs => by
    rw [okW] at h
    rw [nxW] at hs
    rw [show behW (.row ws) s = .row (behWs ws s) from by simp [behW]]
    obtain ⟨h1, h2, h3, h4⟩ := behs_ok ws s h hs
    exact ⟨by rw [okW]; exact h1, by rw [zW, zW]; omega, by rw [dpW, dpW]; omega, by rw [pW, pW]; omega⟩
  | .bes a b, s, h, hs => by
    rw [okW] at h
    rw [nxW] at hs
    rcases List.mem_append.mp hs with q | q
    · obtain ⟨t, ht, rfl⟩ := List.mem_map.mp q
      obtain ⟨h1, h2, h3, h4⟩ := beh_ok a t h.1 ht
      rw [show behW (.bes a b) (.left t) = .bes (behW a t) b from by simp [behW]]
      exact ⟨by rw [okW]; exact ⟨h1, h.2⟩, by rw [zW, zW]; omega, by rw [dpW, dpW]; omega, by rw [pW, pW]; omega⟩
    · obtain ⟨t, ht, rfl⟩ := List.mem_map.mp q
      obtain ⟨h1, h2, h3, h4⟩ := beh_ok b t h.2 ht
      rw [show behW (.bes a b) (.right t) = .bes a (behW b t) from by simp [behW]]
      exact ⟨by rw [okW]; exact ⟨h.1, h1⟩, by rw [zW, zW]; omega, by rw [dpW, dpW]; omega, by rw [pW, pW]; omega⟩
theorem behs_ok {B : Int} : ∀ (ws : List Wk) (s : Sg), okWs B ws → s ∈ nxWs ws → okWs B (behWs ws s) ∧ zWs (behWs ws s) ≤ zWs ws ∧ dpWs (behWs ws s) ≤ dpWs ws + 2 ∧ pWs (behWs ws s) ≤ pWs ws
  | [], s, h, hs => by simp [nxWs] at hs
  | w :: ws, s, h, hs => by
    rw [okWs] at h
    rw [nxWs] at hs
    obtain ⟨h1, h2, h3, h4⟩ := beh_ok w s h.1 hs
    rw [show behWs (w :: ws) s = behW w s :: ws from by simp [behWs]]
    refine ⟨by rw [okWs]; exact ⟨h1, h.2⟩, by rw [zWs, zWs]; omega, by rw [dpWs, dpWs]; omega, by rw [pWs, pWs]; omega⟩
end
end Dl

namespace Dl
open PySem L2
theorem smDs_iff : ∀ {ds : List D}, smDs ds = true ↔ ∀ d ∈ ds, smD d = true
  | [] => by simp [smDs]
  | d :: ds => by simp [smDs, smDs_iff (ds := ds)]
theorem depDs_le : ∀ {ds : List D} {n : Nat}, (∀ d ∈ ds, depD d ≤ n) → depDs ds ≤ n
  | [], n, _ => by simp [depDs]
  | d :: ds, n, h => by
    have h1 := h d (List.mem_cons_self ..)
    have h2 := depDs_le fun x hx => h x (List.mem_cons_of_mem _ hx)
    rw [depDs]; omega
theorem wtDs_le : ∀ {ds : List D} {n : Nat}, (∀ d ∈ ds, wtD d ≤ n) → wtDs ds ≤ ds.length * (n + 1)
  | [], n, _ => by simp [wtDs]
  | d :: ds, n, h => by
    have h1 := h d (List.mem_cons_self ..)
    have h2 := wtDs_le fun x hx => h x (List.mem_cons_of_mem _ hx)
    rw [wtDs, List.length_cons, Nat.succ_mul]; omega
theorem so_tick : PyData.strOk "tick" = true := by decide +kernel
theorem so_some : PyData.strOk "some" = true := by decide +kernel
theorem so_loop : PyData.strOk "loop" = true := by decide +kernel
theorem so_either : PyData.strOk "either" = true := by decide +kernel
theorem so_row : PyData.strOk "row" = true := by decide +kernel
theorem so_beside : PyData.strOk "beside" = true := by decide +kernel
theorem so_more : PyData.strOk "more" = true := by decide +kernel
theorem so_end : PyData.strOk "end" = true := by decide +kernel
theorem so_many : PyData.strOk "many" = true := by decide +kernel
theorem so_way : PyData.strOk "way" = true := by decide +kernel
theorem so_left : PyData.strOk "left" = true := by decide +kernel
theorem so_right : PyData.strOk "right" = true := by decide +kernel
theorem sl_tick : Str.length "tick" = 4 := by decide +kernel
theorem sl_some : Str.length "some" = 4 := by decide +kernel
theorem sl_loop : Str.length "loop" = 4 := by decide +kernel
theorem sl_either : Str.length "either" = 6 := by decide +kernel
theorem sl_row : Str.length "row" = 3 := by decide +kernel
theorem sl_beside : Str.length "beside" = 6 := by decide +kernel
theorem sl_more : Str.length "more" = 4 := by decide +kernel
theorem sl_end : Str.length "end" = 3 := by decide +kernel
theorem sl_many : Str.length "many" = 4 := by decide +kernel
theorem sl_way : Str.length "way" = 3 := by decide +kernel
theorem sl_left : Str.length "left" = 4 := by decide +kernel
theorem sl_right : Str.length "right" = 5 := by decide +kernel
theorem small12 {B n : Int} (hB : B ≤ 999) (h : 0 ≤ n) (k : n ≤ B) : decide (n.natAbs < 10 ^ 12) = true := by
  rw [decide_eq_true_eq]
  have e : (10 : Nat) ^ 12 = 1000000000000 := by decide
  omega
mutual
theorem sm_toD {B : Int} (hB : B ≤ 999) : ∀ w : Wk, okW B w → smD (toD w) = true
  | .tick n, h => by
    rw [okW] at h
    simp only [toD, smD, smDs, so_tick, small12 hB (show 0 ≤ n by omega) h.2, Bool.and_true]
  | .sme a b t, h => by
    rw [okW] at h
    simp only [toD, smD, smDs, so_some, small12 hB h.1 (show a ≤ B by omega), small12 hB (show 0 ≤ b by omega) h.2.2, Bool.and_true]
  | .lop a b t w, h => by
    rw [okW] at h
    simp only [toD, smD, smDs, so_loop, small12 hB h.1 (show a ≤ B by omega), small12 hB (show 0 ≤ b by omega) h.2.2.1, sm_toD hB w h.2.2.2, Bool.and_true]
  | .eit ws, h => by
    rw [okW] at h
    simp only [toD, smD, smDs, so_either, sm_toDs hB ws h.2, Bool.and_true]
  | .row ws, h => by
    rw [okW] at h
    simp only [toD, smD, smDs, so_row, sm_toDs hB ws h, Bool.and_true]
  | .bes a b, h => by
    rw [okW] at h
    simp only [toD, smD, smDs, so_beside, sm_toD hB a h.1, sm_toD hB b h.2, Bool.and_true]
theorem sm_toDs {B : Int} (hB : B ≤ 999) : ∀ ws : List Wk, okWs B ws → smDs (toDs ws) = true
  | [], _ => by simp [toDs, smDs]
  | w :: ws, h => by
    rw [okWs] at h
    simp only [toDs, smDs, sm_toD hB w h.1, sm_toDs hB ws h.2, Bool.and_true]
end
mutual
theorem dep_toD : ∀ w : Wk, depD (toD w) = dpW w
  | .tick n => by simp [toD, depD, depDs, dpW]
  | .sme a b t => by simp [toD, depD, depDs, dpW]
  | .lop a b t w => by simp [toD, depD, depDs, dpW, dep_toD w]; omega
  | .eit ws => by simp [toD, depD, depDs, dpW, dep_toDs ws]; omega
  | .row ws => by simp [toD, depD, depDs, dpW, dep_toDs ws]; omega
  | .bes a b => by simp [toD, depD, depDs, dpW, dep_toD a, dep_toD b]; omega
theorem dep_toDs : ∀ ws : List Wk, depDs (toDs ws) = dpWs ws
  | [] => by simp [toDs, depDs, dpWs]
  | w :: ws => by simp [toDs, depDs, dpWs, dep_toD w, dep_toDs ws]
end
mutual
theorem wt_toD : ∀ w : Wk, wtD (toD w) + 1 ≤ 60 * zW w
  | .tick n => by simp [toD, wtD, wtDs, zW, sl_tick]
  | .sme a b t => by simp [toD, wtD, wtDs, zW, sl_some]
  | .lop a b t w => by
    have h := wt_toD w
    simp only [toD, wtD, wtDs, zW, sl_loop]
    have : 1 * (zW w + 1) ≤ (b.toNat + 1) * (zW w + 1) := Nat.mul_le_mul (by omega) (by omega)
    omega
  | .eit ws => by have h := wt_toDs ws; simp only [toD, wtD, wtDs, zW, sl_either]; omega
  | .row ws => by have h := wt_toDs ws; simp only [toD, wtD, wtDs, zW, sl_row]; omega
  | .bes a b => by have h1 := wt_toD a; have h2 := wt_toD b; simp only [toD, wtD, wtDs, zW, sl_beside]; omega
theorem wt_toDs : ∀ ws : List Wk, wtDs (toDs ws) ≤ 60 * zWs ws
  | [] => by simp [toDs, wtDs]
  | w :: ws => by
    have h1 := wt_toD w
    have h2 := wt_toDs ws
    simp only [toDs, wtDs, zWs]; omega
end
structure SgOk (s : Sg) (n : Nat) : Prop where
  sm : smD (sgD s) = true
  dp : depD (sgD s) ≤ n + 1
  wt : wtD (sgD s) ≤ 46 + 7 * n
theorem SgOk.up {s : Sg} {m n : Nat} (h : SgOk s m) (k : m ≤ n) : SgOk s n := ⟨h.sm, by have := h.dp; omega, by have := h.wt; omega⟩
theorem sg_word {s : Sg} (h : s = .tick ∨ s = .more ∨ s = .fin) (n : Nat) : SgOk s n := by
  rcases h with rfl | rfl | rfl
  · exact ⟨by simp [sgD, smD, so_tick], by simp [sgD, depD], by simp [sgD, wtD, sl_tick]; omega⟩
  · exact ⟨by simp [sgD, smD, so_more], by simp [sgD, depD], by simp [sgD, wtD, sl_more]; omega⟩
  · exact ⟨by simp [sgD, smD, so_end], by simp [sgD, depD], by simp [sgD, wtD, sl_end]; omega⟩
theorem sg_many {B : Int} (hB : B ≤ 999) {a b : Int} (h0 : 0 ≤ a) (hb : b ≤ B) {s : Sg} (h : s ∈ manyS a b) (n : Nat) : SgOk s n := by
  obtain ⟨k, rfl, h1, h2⟩ := manyS_mem h
  exact ⟨by simp only [sgD, smD, smDs, so_many, small12 hB (show 0 ≤ k by omega) (show k ≤ B by omega), Bool.and_true], by simp [sgD, depD, depDs], by simp only [sgD, wtD, wtDs, sl_many]; omega⟩
mutual
theorem nx_ok {B : Int} (hB : B ≤ 999) : ∀ (w : Wk), okW B w → zW w ≤ 100000 → ∀ s ∈ nxW w, SgOk s (dpW w)
  | .tick n, h, hz, s, hs => by rw [nxW, List.mem_singleton] at hs; exact sg_word (.inl hs) _
  | .sme a b t, h, hz, s, hs => by
    rw [okW] at h
    rw [nxW] at hs
    split at hs
    · exact sg_many hB h.1 h.2.2 hs _
    · rcases List.mem_append.mp hs with q | q
      · split at q
        · rw [List.mem_singleton] at q; exact sg_word (.inl q) _
        · cases q
      · split at q
        · rw [List.mem_singleton] at q; exact sg_word (.inr (.inr q)) _
        · cases q
  | .lop a b t w, h, hz, s, hs => by
    rw [okW] at h
    rw [nxW] at hs
    split at hs
    · exact sg_many hB h.1 h.2.2.1 hs _
    · rcases List.mem_append.mp hs with q | q
      · split at q
        · rw [List.mem_singleton] at q; exact sg_word (.inr (.inl q)) _
        · cases q
      · split at q
        · rw [List.mem_singleton] at q; exact sg_word (.inr (.inr q)) _
        · cases q
  | .eit ws, h, hz, s, hs => by
    rw [nxW] at hs
    obtain ⟨i, hi, rfl⟩ := List.mem_map.mp hs
    rw [List.mem_range] at hi
    have hl := len_zWs ws
    rw [zW] at hz
    have e : decide (((i : Nat) : Int).natAbs < 10 ^ 12) = true := by
      rw [decide_eq_true_eq]
      have e : (10 : Nat) ^ 12 = 1000000000000 := by decide
      omega
    refine ⟨by simp only [sgD, smD, smDs, so_way, e, Bool.and_true], by simp [sgD, depD, depDs], by simp only [sgD, wtD, wtDs, sl_way]; omega⟩
  | .row ws, h, hz, s, hs => by
    rw [okW] at h
    rw [nxW] at hs
    rw [zW] at hz
    rw [dpW]
    exact (nxs_ok hB ws h (by omega) s hs).up (by omega)
  | .bes a b, h, hz, s, hs => by
    rw [okW] at h
    rw [nxW] at hs
    rw [zW] at hz
    rcases List.mem_append.mp hs with q | q
    · obtain ⟨t, ht, rfl⟩ := List.mem_map.mp q
      obtain ⟨h1, h2, h3⟩ := nx_ok hB a h.1 (by omega) t ht
      refine ⟨by simp only [sgD, smD, smDs, so_left, h1, Bool.and_true], by simp only [sgD, depD, depDs, dpW]; omega, by simp only [sgD, wtD, wtDs, sl_left, dpW]; omega⟩
    · obtain ⟨t, ht, rfl⟩ := List.mem_map.mp q
      obtain ⟨h1, h2, h3⟩ := nx_ok hB b h.2 (by omega) t ht
      refine ⟨by simp only [sgD, smD, smDs, so_right, h1, Bool.and_true], by simp only [sgD, depD, depDs, dpW]; omega, by simp only [sgD, wtD, wtDs, sl_right, dpW]; omega⟩
theorem nxs_ok {B : Int} (hB : B ≤ 999) : ∀ (ws : List Wk), okWs B ws → zWs ws ≤ 100000 → ∀ s ∈ nxWs ws, SgOk s (dpWs ws)
  | [], h, hz, s, hs => by simp [nxWs] at hs
  | w :: ws, h, hz, s, hs => by
    rw [okWs] at h
    rw [nxWs] at hs
    rw [zWs] at hz
    rw [dpWs]
    exact (nx_ok hB w h.1 (by omega) s hs).up (by omega)
end
theorem manyS_len {B a b : Int} (h0 : 0 ≤ a) (hb : b ≤ B) : (manyS a b).length ≤ (B + 1).toNat := by
  unfold manyS; rw [List.length_map, List.length_range]; omega
mutual
theorem nx_len {B : Int} (hB : 1 ≤ B) : ∀ (w : Wk), okW B w → 2 * (nxW w).length ≤ (B + 1).toNat * zW w
  | .tick n, h => by
    rw [nxW, zW]; simp only [List.length_singleton]; omega
  | .sme a b t, h => by
    rw [okW] at h
    rw [nxW, zW]
    split
    · have := manyS_len (B := B) h.1 h.2.2; omega
    · have : ((if 0 < b then [Sg.tick] else []) ++ (if a = 0 then [Sg.fin] else [])).length ≤ 2 := by split <;> split <;> simp
      have h2 : 2 ≤ (B + 1).toNat := by omega
      omega
  | .lop a b t w, h => by
    rw [okW] at h
    rw [nxW, zW]
    have h4 : (B + 1).toNat * 2 ≤ (B + 1).toNat * (2 + (b.toNat + 1) * (zW w + 1)) := Nat.mul_le_mul_left _ (by omega)
    split
    · have := manyS_len (B := B) h.1 h.2.2.1; omega
    · have : ((if 0 < b then [Sg.more] else []) ++ (if a = 0 then [Sg.fin] else [])).length ≤ 2 := by split <;> split <;> simp
      have h2 : 2 ≤ (B + 1).toNat := by omega
      omega
  | .eit ws, h => by
    rw [nxW, zW, List.length_map, List.length_range]
    have hl := len_zWs ws
    have : 2 * (1 + zWs ws) ≤ (B + 1).toNat * (1 + zWs ws) := Nat.mul_le_mul_right _ (by omega)
    omega
  | .row ws, h => by
    rw [okW] at h
    rw [nxW, zW]
    have := nxs_len hB ws h
    have : (B + 1).toNat * zWs ws ≤ (B + 1).toNat * (1 + zWs ws) := Nat.mul_le_mul_left _ (by omega)
    omega
  | .bes a b, h => by
    rw [okW] at h
    rw [nxW, zW, List.length_append, List.length_map, List.length_map]
    have h1 := nx_len hB a h.1
    have h2 := nx_len hB b h.2
    rw [Nat.mul_add, Nat.mul_add, Nat.mul_add]
    omega
theorem nxs_len {B : Int} (hB : 1 ≤ B) : ∀ (ws : List Wk), okWs B ws → 2 * (nxWs ws).length ≤ (B + 1).toNat * zWs ws
  | [], h => by simp [nxWs]
  | w :: ws, h => by
    rw [okWs] at h
    rw [nxWs, zWs, Nat.mul_add]
    have := nx_len hB w h.1
    omega
end
theorem eqv_over {w : Wk} : eqvD (toD w) (.tup [.str "row", .tup []]) = isOver w := by
  cases w with
  | row ws => cases ws <;> simp [toD, toDs, eqvD, eqvDs, isOver]
  | _ => simp [toD, eqvD, eqvDs, isOver]
end Dl

namespace Dl
open PySem L2
section
variable {t u : DTS} {E : DEnds} {ρ : DSt} {G : GH} {Q : DK} {c : DTT} {te ta tb : DTE} {tl tr : DTA}
theorem iSeq (h : t { E with nx := u E } ρ G) : dSeq t u E ρ G := h
theorem iNext (h : E.nx ρ G) : dNext E ρ G := h
theorem iIfS (h : c ρ G fun b G1 => if b = true then t E ρ G1 else u E ρ G1) : dIfS c t u E ρ G := h
theorem iRet (h : te ρ G E.rt) : dRet te E ρ G := h
theorem iRetN (h : E.rt .non G) : dRetN E ρ G := h
theorem iDrop (h : te ρ G fun _ G1 => E.nx ρ G1) : dDrop te E ρ G := h
theorem iAsg {g : DTG} (h : te ρ G fun x G1 => g x ρ G1 E.nx) : dAsg te g E ρ G := h
theorem iPar {i j : Nat} (h : tl ρ G fun ds G1 => match ds with
  | [v, w] => E.nx ((ρ.set i (some v)).set j (some w)) G1
  | _ => False) : dPar i j tl E ρ G := h
theorem iGNm {i : Nat} {d : D} {Qg : DSt → GH → Prop} (h : Qg (ρ.set i (some d)) G) : gNm i d ρ G Qg := h
theorem iGTp {n : Nat} {t : DTGs} {ds : List D} {Qg : DSt → GH → Prop} (e : ds.length = n) (h : t ds ρ G Qg) : gTp n t (.tup ds) ρ G Qg := ⟨e, h⟩
theorem iGsCons {t : DTG} {u : DTGs} {d : D} {ds : List D} {Qg : DSt → GH → Prop} (h : t d ρ G fun ρ1 G1 => u ds ρ1 G1 Qg) : gsCons t u (d :: ds) ρ G Qg := h
theorem iGsNil {Qg : DSt → GH → Prop} (h : Qg ρ G) : gsNil [] ρ G Qg := h
theorem iGSb {to ti : DTE} {st : DSet} {d : D} {Qg : DSt → GH → Prop} (h : to ρ G fun o G1 => ti ρ G1 fun i G2 => st o i d G2 fun G3 => Qg ρ G3) : gSb to ti st d ρ G Qg := h
theorem iVar {i : Nat} {d : D} (e : sl ρ i = some d) (h : Q d G) : dVar i ρ G Q := by unfold dVar; rw [e]; exact h
theorem iC {d : D} (h : Q d G) : dC d ρ G Q := h
theorem iNil {Ql : List D → GH → Prop} (h : Ql [] G) : dNil ρ G Ql := h
theorem iCons {Ql : List D → GH → Prop} (h : ta ρ G fun x G1 => tr ρ G1 fun xs G2 => Ql (x :: xs) G2) : dCons ta tr ρ G Ql := h
theorem iTup (h : tl ρ G fun xs G1 => xs.length ≤ sizeLine ∧ Q (.tup xs) G1) : dTup tl ρ G Q := h
theorem iLst (h : tl ρ G fun xs G1 => xs.length ≤ sizeLine ∧ ∀ p, G1 p = none → Q (.ref p) (updG G1 p (.lst xs))) : dLst tl ρ G Q := h
theorem lenOk {P : Prop} {n : Nat} (e : n.ble sizeLine = true) (h : P) : n ≤ sizeLine ∧ P := ⟨Nat.le_of_ble_eq_true e, h⟩
def frzK (Q : DK) : DK := fun d G1 => match d with
  | .ref p => (match G1 p with
    | some (.lst ds) => Q (.lst ds) (dropG G1 p)
    | _ => Q (.ref p) G1)
  | d => Q d G1
theorem iFrz (h : te ρ G (frzK Q)) : dFrz te ρ G Q := h
theorem frzEnd {G : GH} {xs : List D} {Q : DK} (h : Q (.lst xs) G) : ∀ p, G p = none → frzK Q (.ref p) (updG G p (.lst xs)) := by
  intro p hp
  unfold frzK
  dsimp only
  rw [updG_same]
  dsimp only
  rw [dropG_updG hp]
  exact h
theorem frzT {xs : List D} (h : Q (.tup xs) G) : frzK Q (.tup xs) G := h
theorem frzL {xs : List D} (h : Q (.lst xs) G) : frzK Q (.lst xs) G := h
theorem frzR {xs : List D} {p : Addr} (e : G p = some (.lst xs)) (h : Q (.lst xs) (dropG G p)) : frzK Q (.ref p) G := by
  unfold frzK
  dsimp only
  rw [e]
  exact h
theorem iOp {r : DR2} (h : ta ρ G fun x G1 => tb ρ G1 fun y G2 => r x y G2 Q) : dOp r ta tb ρ G Q := h
theorem iTst {Qb : Bool → GH → Prop} (h : te ρ G fun d G1 => match d with
  | .bl b => Qb b G1
  | _ => False) : dTst te ρ G Qb := h
theorem iTru {Qb : Bool → GH → Prop} (h : te ρ G fun d G1 => truP G1 d fun b => Qb b G1) : dTru te ρ G Qb := h
theorem iAnd {v w : DTT} {Qb : Bool → GH → Prop} (h : v ρ G fun c G1 => if c = true then w ρ G1 Qb else Qb false G1) : dAnd v w ρ G Qb := h
theorem iOr {v w : DTT} {Qb : Bool → GH → Prop} (h : v ρ G fun c G1 => if c = true then Qb true G1 else w ρ G1 Qb) : dOr v w ρ G Qb := h
theorem iNot {v : DTT} {Qb : Bool → GH → Prop} (h : v ρ G fun c G1 => Qb (!c) G1) : dNot v ρ G Qb := h
theorem iNotV (h : ta ρ G fun x G1 => match x with
  | .bl b => Q (.bl (!b)) G1
  | _ => False) : dNotV ta ρ G Q := h
theorem iIf (h : c ρ G fun b G1 => if b = true then ta ρ G1 Q else tb ρ G1 Q) : dIf c ta tb ρ G Q := h
theorem ifT {A B : Prop} (h : A) : if (true : Bool) = true then A else B := by rw [if_pos rfl]; exact h
theorem ifF {A B : Prop} (h : B) : if (false : Bool) = true then A else B := by rw [if_neg (by decide)]; exact h
theorem ifD {A B : Prop} {p : Prop} [Decidable p] (h1 : p → A) (h2 : ¬ p → B) : if (decide p) = true then A else B := by
  by_cases h : p
  · rw [if_pos (decide_eq_true h)]; exact h1 h
  · rw [if_neg (by simpa using h)]; exact h2 h
theorem iCall {sp : DSp} (h : tl ρ G fun ds G1 => sp ds G1 Q noX) : dCall sp tl ρ G Q := h
theorem iCB {r : DRC} (h : tl ρ G fun ds G1 => r ds G1 Q) : dCB r tl ρ G Q := h
theorem iMt {r : DRM} {to : DTE} (h : to ρ G fun x G1 => lstP G1 x fun _ _ => tl ρ G1 fun ds G2 => r x ds G2 Q) : dMt r to tl ρ G Q := h
theorem iSl {lo hi : DTO} (h : te ρ G fun x G1 => lo ρ G1 fun l G2 => hi ρ G2 fun u G3 => rSl x l u G3 Q) : dSl te lo hi ρ G Q := h
theorem iP {Qo : Option Int → GH → Prop} (h : te ρ G fun d G1 => match d with
  | .int i => Qo (some i) G1
  | _ => False) : dP te ρ G Qo := h
theorem iNoP {Qo : Option Int → GH → Prop} (h : Qo none G) : dNoP ρ G Qo := h
theorem iStar {Ql : List D → GH → Prop} (h : te ρ G fun x G1 => match sqOf G1 x with
  | some l => tr ρ G1 fun r G2 => Ql (l ++ r) G2
  | none => False) : dStar te tr ρ G Ql := h
def getKK (Q : DK) (G : GH) (kvs : List (Key × D)) (k : Key) : Prop := match getK kvs k with
  | some d => Q d G
  | none => False
theorem iDGet (h : ta ρ G fun x G1 => tb ρ G1 fun y G2 => dctP G2 x fun _ kvs => keyP y fun k => getKK Q G2 kvs k) : dDGet ta tb ρ G Q := h
theorem getK_i {kvs : List (Key × D)} {k : Key} {d : D} (e : getK kvs k = some d) (h : Q d G) : getKK Q G kvs k := by unfold getKK; rw [e]; exact h
def isiK (T : String) (Q : DK) : DK := fun d G1 => match tyD G1 d with
  | some s => Q (.bl (subT s T)) G1
  | none => False
theorem iIsi {T : String} (h : te ρ G (isiK T Q)) : dIsi T te ρ G Q := h
theorem isi_i {T : String} {d : D} {s : String} {b : Bool} (e : tyD G d = some s) (e2 : subT s T = b) (h : Q (.bl b) G) : isiK T Q d G := by unfold isiK; rw [e]; dsimp only; rw [e2]; exact h
theorem isi_T {T : String} {d : D} {s : String} (e : tyD G d = some s) (e2 : subT s T = true) (h : Q (.bl true) G) : isiK T Q d G := isi_i e e2 h
theorem isi_F {T : String} {d : D} {s : String} (e : tyD G d = some s) (e2 : subT s T = false) (h : Q (.bl false) G) : isiK T Q d G := isi_i e e2 h
theorem iMatch {cs : List (Option Str × DTS)} (h : te ρ G fun d G1 => dCases cs d E ρ G1) : dMatch te cs E ρ G := h
theorem iFor {wi : DTI} {g : DTG} (h : wi ρ G fun items ok G1 => dForGo ok g t items E ρ G1) : dFor wi g t E ρ G := h
theorem iISq {Qi : List D → (GH → Prop) → GH → Prop} (h : te ρ G fun d G1 => match d with
  | .tup ds => Qi ds okAll G1
  | .lst ds => Qi ds okAll G1
  | .ref a => (match G1 a with
    | some (.lst ds) => Qi ds (fun G => G a = some (.lst ds)) G1
    | _ => False)
  | _ => False) : iSq te ρ G Qi := h
theorem iLc {wi : DTI} {ct : CT} {tt : DTT} {vs : List Nat} (h : wi ρ G fun items ok G1 => ∀ p, G1 p = none → dLcGo ok ct tt te (wipeD ρ vs) p items (updG G1 p (.lst [])) Q) : dLc wi ct tt te vs ρ G Q := h
theorem rIx_i {x d : D} {ds : List D} {i : Int} (e : sqOf G x = some ds) (e2 : atI ds i = some d) (h : Q d G) : rIx x (.int i) G Q := by
  unfold rIx; dsimp only; rw [e]; dsimp only; rw [e2]; exact h
theorem eq_ii {a b : Int} (h : Q (.bl (decide (a = b))) G) : rCmp id (.int a) (.int b) G Q := h
theorem ne_ii {a b : Int} (h : Q (.bl (!decide (a = b))) G) : rCmp not (.int a) (.int b) G Q := h
theorem eq_tt {a b : List D} (h1 : okD (.tup a)) (h2 : okD (.tup b)) (h : Q (.bl (eqvD (.tup a) (.tup b))) G) : rCmp id (.tup a) (.tup b) G Q := ⟨h1, h2, h⟩
theorem ne_tt {a b : List D} (h1 : okD (.tup a)) (h2 : okD (.tup b)) (h : Q (.bl (!eqvD (.tup a) (.tup b))) G) : rCmp not (.tup a) (.tup b) G Q := ⟨h1, h2, h⟩
theorem eq_ll {a b : List D} (h1 : okD (.lst a)) (h2 : okD (.lst b)) (h : Q (.bl (eqvD (.lst a) (.lst b))) G) : rCmp id (.lst a) (.lst b) G Q := ⟨h1, h2, h⟩
theorem eq_ts {a : List D} {b : Str} (h1 : okD (.tup a)) (h2 : okD (.str b)) (h : Q (.bl false) G) : rCmp id (.tup a) (.str b) G Q := by
  refine ⟨h1, h2, ?_⟩
  rw [eqvD] <;> first | exact h | (intros; simp_all)
theorem eq_strT {a : Str} (h : Q (.bl true) G) : rCmp id (.str a) (.str a) G Q := by
  have : Q (.bl (decide (a = a))) G := by rw [decide_eq_true rfl]; exact h
  exact this
theorem eq_strF {a b : String} (e : (a == b) = false) (h : Q (.bl false) G) : rCmp id (.str (Str.ofString a)) (.str (Str.ofString b)) G Q := by
  have : Q (.bl (decide (Str.ofString a = Str.ofString b))) G := by rw [decide_eq_false (by rw [ofString_inj]; simpa using e)]; exact h
  exact this
theorem ne_strT {a : Str} (h : Q (.bl false) G) : rCmp not (.str a) (.str a) G Q := by
  have : Q (.bl (!decide (a = a))) G := by rw [decide_eq_true rfl]; exact h
  exact this
theorem ne_strF {a b : String} (e : (a == b) = false) (h : Q (.bl true) G) : rCmp not (.str (Str.ofString a)) (.str (Str.ofString b)) G Q := by
  have : Q (.bl (!decide (Str.ofString a = Str.ofString b))) G := by rw [decide_eq_false (by rw [ofString_inj]; simpa using e)]; exact h
  exact this
theorem caT {a : Str} {t : DTS} {cs : List (Option Str × DTS)} (h : t E ρ G) : dCases ((some a, t) :: cs) (.str a) E ρ G := by
  show (if a = a then t E ρ G else _)
  rw [if_pos rfl]; exact h
theorem caF {a b : String} {t : DTS} {cs : List (Option Str × DTS)} (e : (b == a) = false) (h : dCases cs (.str (Str.ofString b)) E ρ G) : dCases ((some (Str.ofString a), t) :: cs) (.str (Str.ofString b)) E ρ G := by
  show (if Str.ofString b = Str.ofString a then t E ρ G else _)
  rw [if_neg (by rw [ofString_inj]; simpa using e)]; exact h
theorem caN {t : DTS} {cs : List (Option Str × DTS)} {d : D} (h : t E ρ G) : dCases ((none, t) :: cs) d E ρ G := h
theorem add_ii {i j : Int} (h : Q (.int (i + j)) G) : rAdd (.int i) (.int j) G Q := h
theorem add_tt {a b : List D} (e : a.length + b.length ≤ sizeLine) (h : Q (.tup (a ++ b)) G) : rAdd (.tup a) (.tup b) G Q := ⟨e, h⟩
theorem slT {ds : List D} {lo hi : Option Int} (h : Q (.tup (cutD ds lo hi)) G) : rSl (.tup ds) lo hi G Q := h
theorem slS {ns : List Int} {lo hi : Option Int} (h : ∀ p, G p = none → Q (.ref p) (updG G p (.lst (cutD (ns.map D.int) lo hi)))) : rSl (.scr ns) lo hi G Q := h
theorem mul_li {a : List D} {k : Int} (e1 : -(2 ^ 63) ≤ k) (e2 : k < 2 ^ 63) (e3 : a.length * k.toNat ≤ sizeLine) (h : ∀ p, G p = none → Q (.ref p) (updG G p (.lst (List.replicate k.toNat a).flatten))) : rMul (.lst a) (.int k) G Q := ⟨e1, e2, e3, h⟩
theorem add_ll {a b : List D} (e : a.length + b.length ≤ sizeLine) (h : ∀ p, G p = none → Q (.ref p) (updG G p (.lst (a ++ b)))) : rAdd (.lst a) (.lst b) G Q := ⟨e, h⟩
theorem int2 {C : Int → Int → Prop} {f : Int → Int → D} {i j : Int} (e : C i j) (h : Q (f i j) G) : rInt C f (.int i) (.int j) G Q := ⟨e, h⟩
theorem int0 {f : Int → Int → D} {i j : Int} (h : Q (f i j) G) : rInt0 f (.int i) (.int j) G Q := h
theorem mul_ii {i j : Int} (e : CMul i j) (h : Q (.int (i * j)) G) : rMul (.int i) (.int j) G Q := ⟨e, h⟩
theorem mul_ti {a : List D} {k : Int} (e1 : -(2 ^ 63) ≤ k) (e2 : k ≤ 1000) (e3 : a.length ≤ 1000) (h : Q (.tup (List.replicate k.toNat a).flatten) G) : rMul (.tup a) (.int k) G Q := ⟨e1, e2, .inl e3, h⟩
theorem len_t {l : List D} (h : Q (.int l.length) G) : rLen [.tup l] G Q := h
theorem len_l {l : List D} (h : Q (.int l.length) G) : rLen [.lst l] G Q := h
theorem len_r {l : List D} {a : Addr} (e : G a = some (.lst l)) (h : Q (.int l.length) G) : rLen [.ref a] G Q := by unfold rLen arg1; dsimp only; rw [e]; exact h
theorem len_d {l : List (Key × D)} {a : Addr} (e : G a = some (.dct l)) (h : Q (.int l.length) G) : rLen [.ref a] G Q := by unfold rLen arg1; dsimp only; rw [e]; exact h
theorem tupC_t {l : List D} (h : Q (.tup l) G) : rTupC [.tup l] G Q := h
theorem tupC_l {l : List D} (h : Q (.tup l) G) : rTupC [.lst l] G Q := h
theorem tupC_r {l : List D} {a : Addr} (e : G a = some (.lst l)) (h : Q (.tup l) G) : rTupC [.ref a] G Q := by unfold rTupC arg1 sqOf; dsimp only; rw [e]; exact h
theorem lstC_t {l : List D} (h : ∀ p, G p = none → Q (.ref p) (updG G p (.lst l))) : rLstC [.tup l] G Q := h
theorem lstC_l {l : List D} (h : ∀ p, G p = none → Q (.ref p) (updG G p (.lst l))) : rLstC [.lst l] G Q := h
theorem intC_i {i : Int} (h : Q (.int i) G) : rIntC [.int i] G Q := h
theorem intC_b {b : Bool} (h : Q (.int (if b then 1 else 0)) G) : rIntC [.bl b] G Q := h
theorem max2_ii {i j : Int} (h : Q (.int (if j > i then j else i)) G) : rMax2 [.int i, .int j] G Q := h
theorem min2_ii {i j : Int} (h : Q (.int (if j < i then j else i)) G) : rMin2 [.int i, .int j] G Q := h
theorem repr_i {x : D} (e : Shw (vw G x)) (h : Q (.str (shD (vw G x))) G) : rRepr [x] G Q := ⟨e, h⟩
theorem lstP_i {a : Addr} {l : List D} {P : Addr → List D → Prop} (e : G a = some (.lst l)) (h : P a l) : lstP G (.ref a) P := by unfold lstP; dsimp only; rw [e]; exact h
theorem dctP_i {a : Addr} {l : List (Key × D)} {P : Addr → List (Key × D) → Prop} (e : G a = some (.dct l)) (h : P a l) : dctP G (.ref a) P := by unfold dctP; dsimp only; rw [e]; exact h
theorem keyP_s {x : Str} {P : Key → Prop} (h : P (.inr x)) : keyP (.str x) P := h
theorem keyP_i {x : Int} {P : Key → Prop} (h : P (.inl x)) : keyP (.int x) P := h
theorem app_i {a : Addr} {l : List D} {d : D} (e : G a = some (.lst l)) (z : l.length < sizeLine) (h : Q .non (updG G a (.lst (l ++ [d])))) : mAppend (.ref a) [d] G Q := lstP_i e ⟨z, h⟩
theorem ext_i {a : Addr} {l m : List D} {d : D} (e : G a = some (.lst l)) (e2 : sqOf G d = some m) (z : l.length + m.length ≤ sizeLine) (h : Q .non (updG G a (.lst (l ++ m)))) : mExtend (.ref a) [d] G Q := by
  refine lstP_i e ?_
  unfold arg1
  dsimp only
  rw [e2]
  exact ⟨z, h⟩
theorem pop_i {a : Addr} {l : List D} {d : D} (e : G a = some (.lst (l ++ [d]))) (h : Q d (updG G a (.lst l))) : mPop (.ref a) [] G Q := by
  refine lstP_i e ?_
  dsimp only
  rw [show (l ++ [d])[(l ++ [d]).length - 1]? = some d from by simp]
  dsimp only
  rw [List.dropLast_concat]
  exact h
theorem truB {b : Bool} {P : Bool → Prop} (h : P b) : truP G (.bl b) P := h
end
end Dl

namespace Dl
open PySem L2
theorem lc_map {α : Type} {ok : GH → Prop} {ct : CT} {te : DTE} {ρ : DSt} {p : Addr} {Q : DK} {g h : α → D} {xs : List α} {G : GH} (hp : G p = none) (hok : ∀ G, ok G) (hl : xs.length ≤ sizeLine) (hf : ∀ x ∈ xs, PureE te ct ρ (g x) (h x))
    (hq : ∀ G', Grow G G' → G' p = some (.lst (xs.map h)) → Q (.ref p) G') : dLcGo ok ct dYes te ρ p (xs.map g) (updG G p (.lst [])) Q := by
  refine dLcGo_of (I := fun rest acc G' => ∃ rs, rest = rs.map g ∧ acc ++ rs.map h = xs.map h ∧ (∀ x ∈ rs, x ∈ xs) ∧ Grow G G' ∧ G' p = some (.lst acc)) ?_ ?_ _ [] _ ⟨xs, rfl, rfl, fun _ h => h, Grow.upd hp, updG_same⟩
  · rintro acc G' ⟨rs, e0, e, -, gg, ep⟩
    cases rs with
    | cons => cases e0
    | nil =>
      refine ⟨hok _, hq _ gg ?_⟩
      rw [← e, List.map_nil, List.append_nil]
      exact ep
  · rintro x rest acc G' ⟨rs, e0, e, m, gg, ep⟩
    cases rs with
    | nil => cases e0
    | cons r rs =>
      injection e0 with e1 e2
      subst e1 e2
      obtain ⟨ρ2, e2, k⟩ := hf r (m r (List.mem_cons_self ..))
      refine ⟨hok _, ρ2, e2, fun K hK => k G' K fun G4 g4 => ?_⟩
      refine hK _ G4 (g4 _ _ ep) ?_ ⟨rs, rfl, ?_, fun y hy => m y (List.mem_cons_of_mem _ hy), Grow.upd2 hp (gg.trans g4), updG_same⟩
      · have := congrArg List.length e
        simp at this
        omega
      · rw [← e]; simp
theorem lcF {α : Type} (xs : List α) (g h : α → D) {wi : DTI} {ct : CT} {te : DTE} {ρ : DSt} {vs : List Nat} {G : GH} {Q : DK} (hw : ∀ P : List D → (GH → Prop) → GH → Prop, (∀ ok G1, (∀ G, ok G) → Grow G G1 → P (xs.map g) ok G1) → wi ρ G P)
    (hl : xs.length ≤ sizeLine) (hf : ∀ x ∈ xs, PureE te ct (wipeD ρ vs) (g x) (h x)) (hq : ∀ G', Grow G G' → Q (.lst (xs.map h)) G') : dLc wi ct dYes te vs ρ G (frzK Q) := by
  unfold dLc
  refine hw _ ?_
  intro ok G1 hok g1 p hp
  refine lc_map hp hok hl hf ?_
  intro G' gg e
  exact frzR e (hq _ (g1.trans (Grow.drop hp gg)))
section
variable {E : DEnds} {ρ : DSt} {G : GH} {Q : DK} {te ta tb : DTE} {tl : DTA} {Qi : List D → (GH → Prop) → GH → Prop}
theorem iIRg1 (h : tl ρ G fun ds G1 => match ds with
  | [.int j] => -(2 ^ 62) ≤ j ∧ j < 2 ^ 62 ∧ Qi (rngD 0 j.toNat) okAll G1
  | _ => False) : iRg1 tl ρ G Qi := h
theorem iIRg2 (h : tl ρ G fun ds G1 => match ds with
  | [.int i, .int j] => (-(2 ^ 62) ≤ i ∧ i < 2 ^ 62 ∧ -(2 ^ 62) ≤ j ∧ j < 2 ^ 62) ∧ Qi (rngD i (j - i).toNat) okAll G1
  | _ => False) : iRg2 tl ρ G Qi := h
theorem iIEnT (h : te ρ G fun d G1 => match d with
  | .tup ds => Qi (enumD ds) okAll G1
  | _ => False) : iEnT te ρ G Qi := h
theorem add_llb {a b : List D} (e : (a.length + b.length).ble sizeLine = true) (h : ∀ p, G p = none → Q (.ref p) (updG G p (.lst (a ++ b)))) : rAdd (.lst a) (.lst b) G Q := ⟨Nat.le_of_ble_eq_true e, h⟩
theorem add_ttb {a b : List D} (e : (a.length + b.length).ble sizeLine = true) (h : Q (.tup (a ++ b)) G) : rAdd (.tup a) (.tup b) G Q := ⟨Nat.le_of_ble_eq_true e, h⟩
end
@[simp] theorem rep_one {α : Type} (k : Nat) (x : α) : (List.replicate k [x]).flatten = List.replicate k x := by
  induction k with
  | zero => rfl
  | succ k ih => rw [List.replicate_succ, List.flatten_cons, ih, List.replicate_succ]; rfl
theorem toDs_rep (k : Nat) (w : Wk) : toDs (List.replicate k w) = List.replicate k (toD w) := by rw [toDs_map]; simp
theorem cut1 (x : D) (xs : List D) : cutD (x :: xs) (some 1) none = xs := by
  unfold cutD HT.sIx
  simp
theorem rngD_map (lo : Int) (n : Nat) : rngD lo n = (List.range n).map fun i => D.int (lo + (i : Nat)) := rfl
theorem enumD_map (ds : List D) : enumD ds = (List.range ds.length).map fun i => D.tup [.int (i : Nat), ds.getD i .non] := rfl
end Dl

namespace Dl
open PySem L2
section
variable {E : DEnds} {ρ : DSt} {G : GH} {Q : DK} {te ta tb : DTE} {tl : DTA} {Qi : List D → (GH → Prop) → GH → Prop}
theorem inn_T {x y : D} {ds : List D} (e : sqOf G y = some ds) (h1 : flatD x = true) (h2 : ds.all flatD = true) (e3 : inD x ds = true) (h : Q (.bl true) G) : rInn id x y G Q := by
  unfold rInn; rw [e]; exact ⟨h1, h2, by rw [e3]; exact h⟩
theorem inn_F {x y : D} {ds : List D} (e : sqOf G y = some ds) (h1 : flatD x = true) (h2 : ds.all flatD = true) (e3 : inD x ds = false) (h : Q (.bl false) G) : rInn id x y G Q := by
  unfold rInn; rw [e]; exact ⟨h1, h2, by rw [e3]; exact h⟩
def dispK (Q : DK) (p : Addr) (ps : List (D × D)) (G2 : GH) : Prop := G2 p = some (.dct []) ∧ match keysD ps with
  | some kvs => kvs.length ≤ 15 ∧ Q (.ref p) (updG G2 p (.dct (mergeD [] kvs)))
  | none => False
theorem iDisp {trs : List (DTE × DTE)} (h : ∀ p, G p = none → dPairs trs ρ (updG G p (.dct [])) (dispK Q p)) : dDisp trs ρ G Q := h
theorem iPsN {Qp : List (D × D) → GH → Prop} (h : Qp [] G) : dPairs [] ρ G Qp := h
theorem iPsC {Qp : List (D × D) → GH → Prop} {r : List (DTE × DTE)} (h : ta ρ G fun x G1 => tb ρ G1 fun y G2 => dPairs r ρ G2 fun ps G3 => Qp ((x, y) :: ps) G3) : dPairs ((ta, tb) :: r) ρ G Qp := h
theorem dispEnd {p : Addr} {ps : List (D × D)} {kvs : List (Key × D)} (e : G p = some (.dct [])) (e2 : keysD ps = some kvs) (hl : kvs.length.ble 15 = true) (h : Q (.ref p) (updG G p (.dct (mergeD [] kvs)))) : dispK Q p ps G := by
  refine ⟨e, ?_⟩
  rw [e2]
  exact ⟨Nat.le_of_ble_eq_true hl, h⟩
end
theorem lcP {α : Type} (xs : List α) (g : α → D) (P : D → Prop) {wi : DTI} {ct : CT} {te : DTE} {ρ : DSt} {vs : List Nat} {G : GH} {Q : DK} (hw : ∀ P : List D → (GH → Prop) → GH → Prop, (∀ ok G1, (∀ G, ok G) → Grow G G1 → P (xs.map g) ok G1) → wi ρ G P)
    (hl : xs.length ≤ sizeLine) (hf : ∀ x ∈ xs, ∃ ρ2, bindC ct (g x) (wipeD ρ vs) = some ρ2 ∧ ∀ (G : GH) (K : DK), (∀ y G', P y → Grow G G' → K y G') → te ρ2 G K)
    (hq : ∀ l G', (∀ y ∈ l, P y) → l.length = xs.length → Grow G G' → Q (.lst l) G') : dLc wi ct dYes te vs ρ G (frzK Q) := by
  unfold dLc
  refine hw _ ?_
  intro ok G1 hok g1 p hp
  refine dLcGo_of (I := fun rest acc G' => ∃ rs, rest = rs.map g ∧ acc.length + rs.length = xs.length ∧ (∀ y ∈ acc, P y) ∧ (∀ x ∈ rs, x ∈ xs) ∧ Grow G1 G' ∧ G' p = some (.lst acc)) ?_ ?_ _ [] _ ⟨xs, rfl, by simp, (fun y hy => by cases hy), fun _ h => h, Grow.upd hp, updG_same⟩
  · rintro acc G' ⟨rs, e0, e, ha, -, gg, ep⟩
    cases rs with
    | cons => cases e0
    | nil => exact ⟨hok _, frzR ep (hq _ _ ha (by simpa using e) (g1.trans (Grow.drop hp gg)))⟩
  · rintro x rest acc G' ⟨rs, e0, e, ha, m, gg, ep⟩
    cases rs with
    | nil => cases e0
    | cons r rs =>
      injection e0 with e1 e2
      subst e1 e2
      obtain ⟨ρ2, e2, k⟩ := hf r (m r (List.mem_cons_self ..))
      refine ⟨hok _, ρ2, e2, fun K hK => k G' K fun y G4 hy g4 => ?_⟩
      rw [List.length_cons] at e
      refine hK _ G4 (g4 _ _ ep) (by omega) ⟨rs, rfl, by rw [List.length_append, List.length_singleton]; omega, fun z hz => ?_, fun y hy => m y (List.mem_cons_of_mem _ hy), Grow.upd2 hp (gg.trans g4), updG_same⟩
      rcases List.mem_append.mp hz with q | q
      · exact ha z q
      · rw [List.mem_singleton] at q; subst q; exact hy
theorem intsD_all : ∀ {l : List D}, (∀ y ∈ l, ∃ i : Int, y = .int i) → ∃ ns, intsD l = some ns ∧ ns.length = l.length
  | [], _ => ⟨[], by simp [intsD], rfl⟩
  | d :: l, h => by
    obtain ⟨i, rfl⟩ := h d (List.mem_cons_self ..)
    obtain ⟨ns, e, hl⟩ := intsD_all fun y hy => h y (List.mem_cons_of_mem _ hy)
    exact ⟨i :: ns, by simp [intsD, e], by simp [hl]⟩
end Dl

namespace Dl
open PySem L2
theorem seqC {t u : DTS} {E : DEnds} {ρ : DSt} {G : GH} (P : DSt → GH → Prop) (h1 : ∀ K : DSt → GH → Prop, (∀ ρ G, P ρ G → K ρ G) → t { E with nx := K } ρ G) (h2 : ∀ ρ G, P ρ G → u E ρ G) : dSeq t u E ρ G := h1 _ h2
theorem ifDT {A B p : Prop} [Decidable p] (h : p) (a : A) : if (decide p) = true then A else B := by rw [if_pos (decide_eq_true h)]; exact a
theorem ifDF {A B p : Prop} [Decidable p] (h : ¬ p) (b : B) : if (decide p) = true then A else B := by rw [if_neg (by simpa using h)]; exact b
theorem sLst_i {a : Addr} {l : List D} {i : Int} {j : Nat} {d : D} {G : GH} {Q : GH → Prop} (e : G a = some (.lst l)) (e2 : ixN l.length i = some j) (h : Q (updG G a (.lst (l.set j d)))) : sLst (.ref a) (.int i) d G Q := by
  refine lstP_i e ?_
  dsimp only
  rw [e2]
  exact h
def andVK (tb : DTE) (ρ : DSt) (Q : DK) : DK := fun x G1 => match x with
  | .bl true => tb ρ G1 Q
  | .bl false => Q (.bl false) G1
  | _ => False
theorem iAndVK {ta tb : DTE} {ρ : DSt} {G : GH} {Q : DK} (h : ta ρ G (andVK tb ρ Q)) : dAndV ta tb ρ G Q := h
theorem andVT {tb : DTE} {ρ : DSt} {G : GH} {Q : DK} (h : tb ρ G Q) : andVK tb ρ Q (.bl true) G := h
theorem andVF {tb : DTE} {ρ : DSt} {G : GH} {Q : DK} (h : Q (.bl false) G) : andVK tb ρ Q (.bl false) G := h
theorem andVD {tb : DTE} {ρ : DSt} {G : GH} {Q : DK} {p : Prop} [Decidable p] (h1 : p → tb ρ G Q) (h2 : ¬ p → Q (.bl false) G) : andVK tb ρ Q (.bl (decide p)) G := by
  by_cases h : p
  · rw [decide_eq_true h]; exact h1 h
  · rw [decide_eq_false h]; exact h2 h
theorem andVDT {tb : DTE} {ρ : DSt} {G : GH} {Q : DK} {p : Prop} [Decidable p] (h : p) (a : tb ρ G Q) : andVK tb ρ Q (.bl (decide p)) G := by rw [decide_eq_true h]; exact a
theorem andVDF {tb : DTE} {ρ : DSt} {G : GH} {Q : DK} {p : Prop} [Decidable p] (h : ¬ p) (a : Q (.bl false) G) : andVK tb ρ Q (.bl (decide p)) G := by rw [decide_eq_false h]; exact a
theorem rIx_r {a : Addr} {l : List D} {i : Int} {d : D} {G : GH} {Q : DK} (e : G a = some (.lst l)) (e2 : atI l i = some d) (h : Q d G) : rIx (.ref a) (.int i) G Q := rIx_i (ds := l) (by unfold sqOf; dsimp only; rw [e]) e2 h
theorem ifNT {A B : Prop} (h : B) : if (!true) = true then A else B := by rw [if_neg (by decide)]; exact h
theorem ifNF {A B : Prop} (h : A) : if (!false) = true then A else B := by rw [if_pos (by decide)]; exact h
theorem callee0 {P : Program} {w : World} {K : PySem.W.Frag} {mg : Str → Option Value} {base : Heap} {x qual : Str} {params : Arguments} {body : List Stmt} {scope : Scope} {f : Addr} {fd : FuncData} {ps : List Str} {sp : DSp}
    (F : FunD K x qual params body scope [] [] f fd) (hm : mg x = some (.ref f)) (h : ∀ ds G Q E, ¬ sp ds G Q E)
    (b1 : ∀ (kV doc pm : Value) (an : Option Addr) (cdv ct : Value) (us : List Value), us.length = ps.length → bindArgs (PySem.W.fnOf x qual params body scope .none kV doc pm an cdv ct) ⟨us, []⟩ = pure (ps.zip us))
    (b2 : ∀ (kV doc pm : Value) (an : Option Addr) (cdv ct : Value) (us : List Value), us.length = ps.length → bindArgs (PySem.W.fnOf x qual params body scope .none kV doc pm an cdv ct) ⟨[], ps.zip us⟩ = pure (ps.zip us)) : Callee P w K mg base 0 x ps sp :=
  callee_of F hm ⟨fun _ _ _ _ ⟨_, _, _, _, _, _, q, _⟩ => (h _ _ _ _ q).elim, fun _ _ _ _ _ _ _ _ _ _ _ _ _ _ ⟨_, _, _, _, _, _, q, _⟩ => (h _ _ _ _ q).elim⟩ b1 b2
end Dl

namespace Dl
open PySem L2
def pick1 {α : Type} (us its ws : List α) (q : Nat × Nat) : Option α := if q.1 = 0 then us[q.2]? else if q.1 = 1 then its[q.2]? else ws[q.2]?
def pick {α : Type} (src : List (Nat × Nat)) (us its ws : List α) : List α := match src with
  | [] => []
  | q :: r => (pick1 us its ws q).toList ++ pick r us its ws
structure CalleeG (P : Program) (w : World) (K : PySem.W.Frag) (mg : Str → Option Value) (base : Heap) (k : Nat) (x : Str) (n : Nat) (ks : List Str) (src : List (Nat × Nat)) (dv : List D) (sp : DSp) : Prop where
  ex : ∃ f fd ps, DFn P w K mg base k f fd ps sp ∧ mg x = some (.ref f) ∧ PySem.W.keepIn K (.ref f) = true ∧ ∃ (its : List Value) (dvs : List V), Vals dvs its ∧ (∀ G H, RepL K G H dv dvs) ∧
    ∀ (s : Shared) (us ws : List Value), K.In s.heap → us.length = n → ws.length = ks.length → BindsTo s fd ⟨us, ks.zip ws⟩ (ps.zip (pick src us its ws))
theorem CalleeG.up {P : Program} {w : World} {K : PySem.W.Frag} {mg : Str → Option Value} {base : Heap} {j k n : Nat} {x : Str} {ks : List Str} {src : List (Nat × Nat)} {dv : List D} {sp : DSp} (C : CalleeG P w K mg base j x n ks src dv sp) (h : j ≤ k) : CalleeG P w K mg base k x n ks src dv sp := by
  obtain ⟨f, fd, ps, F, a⟩ := C.ex
  exact ⟨f, fd, ps, F.up h, a⟩
@[simp] def dCallG (sp : DSp) (n m : Nat) (src : List (Nat × Nat)) (dv : List D) (ta tk : DTA) : DTE := fun ρ G Q => ta ρ G fun ds G1 => tk ρ G1 fun es G2 => ds.length = n ∧ es.length = m ∧ sp (pick src ds dv es) G2 Q noX
section
variable {X : Cx} {k n : Nat} {x : Str} {ks : List Str} {src : List (Nat × Nat)} {dv : List D} {sp : DSp} {p pos : Pos} {e : Expr} {es : List Expr} {ta tk : DTA} {kws : List Keyword}
end
section
variable {P : Program} {w : World} {K : PySem.W.Frag} {mg : Str → Option Value} {base : Heap} {k n : Nat} {x qual : Str} {params : Arguments} {body : List Stmt} {scope : Scope} {f : Addr} {fd : FuncData} {ps ks : List Str} {src : List (Nat × Nat)} {sp : DSp}
end
end Dl

namespace Dl
open PySem L2
section
variable {X : Cx}
end
end Dl
namespace Dl
open PySem PySem.Spec PyProof.Rows HT
section
variable {prog : Program} {w : World} {A : Around} {E : Value → Shared → Prop} {s : Shared}
theorem applied_rev {sl : Addr} {vl vu vs : Value} {n : Nat} {Q : Int × Int × Nat → Shared → Prop} (hs : s.heap.IsSliceOf sl vl vu vs) (pl : IsPart vl none) (pu : IsPart vu none) (ps : IsPart vs (some (-1)))
    (h : Q ((n : Int) - 1, -1, n) s) : wpAny (model prog w) A (Builtin.Slice.sliceApplied (.ref sl) (pure (n : Int))) Q E s := by
  obtain ⟨os, hos, hcs, hds⟩ := id hs
  unfold Builtin.Slice.sliceApplied Builtin.Slice.sliceFields
  refine wpAny_bind (wpAny_bind (wpAny_field hos hds (x := vl) rfl (wpAny_bind (wpAny_field hos hds (x := vu) rfl (wpAny_bind (wpAny_field hos hds (x := vs) rfl (wpAny_pure ?_)))))))
  refine wpAny_bind (slicePart_ ps ?_)
  show wpAny _ _ (if ((-1 : Int) == 0) = true then _ else _) _ _ s
  rw [if_neg (by decide)]
  refine wpAny_bind (slicePart_ pl (wpAny_bind (slicePart_ pu (wpAny_bind (wpAny_pure ?_)))))
  show wpAny _ _ (pure ((n : Int) - 1, (-1 : Int), Builtin.Slice.slicePlaces ((n : Int) - 1) (-1) (-1))) _ _ s
  have e : Builtin.Slice.slicePlaces ((n : Int) - 1) (-1) (-1) = n := by
    unfold Builtin.Slice.slicePlaces
    rw [if_neg (by decide)]
    split
    · rw [show (-(-1) : Int) = 1 from by decide, Int.ediv_one]; omega
    · omega
  rw [e]
  exact wpAny_pure h
theorem fm_congr {α β : Type} {f g : α → Option β} : ∀ {l : List α}, (∀ x ∈ l, f x = g x) → l.filterMap f = l.filterMap g
  | [], _ => rfl
  | x :: l, h => by
    rw [List.filterMap_cons, List.filterMap_cons, h x (List.mem_cons_self ..), fm_congr fun y hy => h y (List.mem_cons_of_mem _ hy)]
theorem rev_pick (xs : Array Value) : ((List.range xs.size).filterMap fun (m : Nat) => xs[(((xs.size : Int) - 1) + (m : Int) * (-1)).toNat]?).toArray = xs.toList.reverse.toArray := by
  have e : (List.range xs.size).filterMap (fun (m : Nat) => xs[(((xs.size : Int) - 1) + (m : Int) * (-1)).toNat]?) = ((List.range xs.size).map fun k => xs.size - 1 - k).filterMap (xs[·]?) := by
    rw [List.filterMap_map]
    refine fm_congr ?_
    intro m hm
    have := List.mem_range.mp hm
    show xs[(((xs.size : Int) - 1) + (m : Int) * (-1)).toNat]? = xs[xs.size - 1 - m]?
    congr 1
    omega
  rw [e, PySem.W.krv_range, List.filterMap_reverse, PySem.W.krv_all]
theorem getItem_tuple_rev {t sl : Addr} {items : Array Value} {vl vu vs : Value} {Q : Value → Shared → Prop} (ht : IsTup s.heap t items) (hs : s.heap.IsSliceOf sl vl vu vs) (pl : IsPart vl none) (pu : IsPart vu none) (ps : IsPart vs (some (-1)))
    (h : Q (.ref s.heap.objs.size) { s with heap := s.heap.push { cls := .type "tuple", data := .seq items.toList.reverse.toArray } })
    (hsz : items.size ≤ sizeLine) : wpAny (model prog w) A (getItem (.ref t) (.ref sl)) Q E s := by
  have htake : sizeOk (.seq items.toList.reverse.toArray) := by
    show items.toList.reverse.toArray.size ≤ sizeLine
    rw [List.size_toArray, List.length_reverse, Array.length_toList]
    exact hsz
  obtain ⟨os, hos, hcs, hds⟩ := id hs
  have hTs : s.TypeIs (.ref sl) "slice" := ⟨os, hos, hcs⟩
  unfold getItem
  try with_reducible refine wpAny_holding ?_
  first | refine wpAny_bind (wpAny_pure ?_) | skip
  refine wpAny_bind (wpAny_sequenceKey ht.typeIs (by decide) ?_)
  refine wpAny_bind (wpAny_callSpecial?_slot (name := Str.ofString "__getitem__") ht.typeIs PyProof.Rows.slot_tuple_getitem
    (wpAny_call_entry PyProof.Rows.slot_tuple_getitem ht.typeIs entry_tuple_getitem ?_ (args_tuple_getitem _ _)))
  show wpAny _ _ (Builtin.Tuple.tupleItemsOf (.ref t) >>= _) _ _ s
  refine wpAny_bind (tupleItemsOf_ ht ?_)
  refine wpAny_bind (wpAny_typeOf hTs ?_)
  rw [if_pos (by decide)]
  refine wpAny_bind (applied_rev hs pl pu ps ?_)
  have hno : ¬ (((items.size : Int) - 1 == 0 && (-1 : Int) == 1 && items.size == items.size) = true) := by
    intro q
    rw [Bool.and_eq_true, Bool.and_eq_true] at q
    exact absurd q.1.2 (by decide)
  show wpAny _ _ (if (((items.size : Int) - 1 == 0 && (-1 : Int) == 1 && items.size == items.size) = true) then _ else _) _ _ s
  rw [if_neg hno, rev_pick]
  first
    | exact wpAny_bind (m := Builtin.Tuple.tupleExact _) (wpAny_newObj_type (wpAny_pure ⟨_, rfl, wpAny_pure h⟩) htake)
    | exact wpAny_bind (m := Builtin.Tuple.tupleExact _) (wpAny_newObj_type (wpAny_bind (wpAny_pure (wpAny_pure ⟨_, rfl, wpAny_pure h⟩))) htake)
    | exact wpAny_bind (wpAny_bind (m := Builtin.Tuple.tupleExact _) (wpAny_newObj_type (wpAny_pure (wpAny_pure ⟨_, rfl, wpAny_pure h⟩)) htake))
    | exact wpAny_bind (wpAny_bind (m := Builtin.Tuple.tupleExact _) (wpAny_newObj_type (wpAny_pure ⟨_, rfl, wpAny_pure h⟩) htake))
end
end Dl
namespace Dl
open PySem L2
@[simp] def rRev : D → GH → DK → Prop := fun x G Q => match x with
  | .tup ds => Q (.tup ds.reverse) G
  | .lst ds => ∀ p, G p = none → Q (.ref p) (updG G p (.lst ds.reverse))
  | .ref a => (match G a with
    | some (.lst ds) => ∀ p, G p = none → Q (.ref p) (updG G p (.lst ds.reverse))
    | _ => False)
  | _ => False
@[simp] def dRev (te : DTE) : DTE := fun ρ G Q => te ρ G fun x G1 => rRev x G1 Q
def tRevA (K : PySem.W.Frag) (te : TE) : TE := fun σ H Q => te σ H fun x H1 => ∃ a xs, x = .ref a ∧ ((SqL K H1 a xs ∧ ∀ p, H1 p = none → Q (.ref p) (upd H1 p (.lst xs.reverse))) ∨ (SqT K H1 a xs ∧ ∀ p, H1 p = none → Q (.ref p) (upd H1 p (.tup xs.reverse))))
section
open PySem.Spec PyProof.Rows
variable {X : Cx}
theorem pe_revA {e : Expr} {te : TE} {kk : Nat} {q1 q2 q3 pos : Pos} (he : PE X e te) : PE X (.Subscript e (.Slice none none (some (.UnaryOp .USub (.Constant (.int 1) kk q1) q2)) q3) pos) (tRevA X.K te) := by
  constructor
  intro pins s σ H Q I h
  refine Subscript_ (thn (he.run pins s σ H _ I h) ?_)
  rintro v s1 ⟨x, H1, I1, r1, a, xs, rfl, q⟩
  cases r1
  have hst : PO X (some (.UnaryOp .USub (.Constant (.int 1) kk q1) q2)) (tPart (tUn (rU fun i => .int (-i)) (tC (.int 1)))) := po_some (pe_un un_neg pe_int)
  refine wpAny_Slice (thn (po_none.run pins s1 σ H1 (fun o Ha => o = none ∧ Ha = H1) I1 ⟨rfl, rfl⟩) ?_)
  rintro vl s2 ⟨l, H2, I2, pl, rfl, rfl⟩
  refine thn (po_none.run pins s2 σ H2 (fun o Hb => o = none ∧ Hb = H2) I2 ⟨rfl, rfl⟩) ?_
  rintro vu s3 ⟨u, H3, I3, pu, rfl, rfl⟩
  refine thn (hst.run pins s3 σ H3 (fun o Hc => o = some (-1) ∧ Hc = H3) I3 ⟨1, rfl, -1, rfl, rfl, rfl⟩) ?_
  rintro vs s4 ⟨o, H4, I4, ps, rfl, rfl⟩
  have I5 : Inv X pins σ H4 { s4 with heap := s4.heap.push { cls := .type "slice", data := .fields #[vl, vu, vs] } } := I4.kept (t' := s4.toks) fun b ob z => Heap.get?_push_of_some _ z
  have ho := Heap.IsSliceOf.new s4.heap vl vu vs
  rcases q with ⟨hx, q⟩ | ⟨hx, q⟩
  · obtain ⟨its, r, ht, hz⟩ := I5.list hx
    have hlen := r.length
    refine tail_any (ops := [.ref a, .ref s4.heap.objs.size]) ht.isList.typeIs (PySem.slot_list_getitem.lookup) ?_ (by with_unfolding_all rfl)
    refine wpAny_getItem_list_slice ht.isList ho pl pu ps (by decide) ?_ (by rw [List.size_toArray]; omega)
    rw [PySem.W.krv_pick]
    refine ⟨.ref _, _, I5.laid (t' := s4.toks) (o := .lst xs.reverse) (fun b ob z => Heap.get?_push_of_some _ z) (Nat.le_refl _) ?_, rfl, q _ (I5.hok.fresh (Nat.le_refl _))⟩
    exact ⟨by rw [List.length_reverse]; exact hz, _, 0, r.reverse, Heap.get?_push_size _ rfl⟩
  · obtain ⟨its, r, ht, hz⟩ := I5.tuple hx
    have hlen := r.length
    refine tail_any (ops := [.ref a, .ref s4.heap.objs.size]) ht.typeIs (PyProof.Rows.slot_tuple_getitem.lookup) ?_ (by with_unfolding_all rfl)
    refine getItem_tuple_rev ht ho pl pu ps ?_ (by rw [List.size_toArray]; omega)
    refine ⟨.ref _, _, I5.laid (t' := s4.toks) (o := .tup xs.reverse) (fun b ob z => Heap.get?_push_of_some _ z) (Nat.le_refl _) ?_, rfl, q _ (I5.hok.fresh (Nat.le_refl _))⟩
    exact ⟨by rw [List.length_reverse]; exact hz, _, r.reverse, IsTup.new _ _⟩
end
end Dl
namespace Dl
open PySem L2
section
variable {X : Cx}
theorem de_rev {e : Expr} {te : DTE} {kk : Nat} {q1 q2 q3 pos : Pos} (he : DE X e te) : DE X (.Subscript e (.Slice none none (some (.UnaryOp .USub (.Constant (.int 1) kk q1) q2)) q3) pos) (dRev te) := by
  refine (pe_revA he).imp fun σ H Q ⟨ρ, G, q, r, h, k⟩ => ?_
  refine ⟨ρ, G, _, r, h, fun x dx H1 G1 e1 r1 v1 h1 => ?_⟩
  have lcase : ∀ (a : Addr) (xs : List V) (ds : List D), x = .ref a → SqL X.K H1 a xs → RepL X.K G1 H1 ds xs → (∀ p, G1 p = none → q (.ref p) (updG G1 p (.lst ds.reverse))) →
      ∃ a xs, x = .ref a ∧ ((SqL X.K H1 a xs ∧ ∀ p, H1 p = none → Q (.ref p) (upd H1 p (.lst xs.reverse))) ∨ (SqT X.K H1 a xs ∧ ∀ p, H1 p = none → Q (.ref p) (upd H1 p (.tup xs.reverse)))) := by
    intro a xs ds ex hq rl hk
    refine ⟨a, xs, ex, .inl ⟨hq, fun p hp => ?_⟩⟩
    obtain ⟨e2, r2, v2⟩ := r1.newLst hp rl.reverse
    exact k _ _ _ _ (e1.trans e2) r2 v2 (hk p (r1.gok.fresh hp))
  cases dx with
  | tup ds =>
    obtain ⟨a, xs, ex, t, rl⟩ := tp_at v1
    refine ⟨a, xs, ex, .inr ⟨t, fun p hp => ?_⟩⟩
    obtain ⟨e2, r2, v2⟩ := r1.newTup hp rl.reverse
    exact k _ _ _ _ (e1.trans e2) r2 v2 h1
  | lst ds =>
    unfold RepV at v1
    obtain ⟨a, xs, ex, t, rl⟩ := v1
    exact lcase a xs ds ex t.sq rl h1
  | ref a =>
    cases rv_ref v1
    dsimp only [rRev] at h1
    cases hg : G1 a with
    | none => rw [hg] at h1; exact h1.elim
    | some o =>
      rw [hg] at h1
      cases o with
      | lst ds =>
        obtain ⟨xs, h3, h4⟩ := r1.gok a _ hg
        exact lcase a xs ds rfl (SqL.of h3) h4 h1
      | _ => exact h1.elim
  | _ => exact h1.elim
theorem iRev {te : DTE} {ρ : DSt} {G : GH} {Q : DK} (h : te ρ G fun x G1 => rRev x G1 Q) : dRev te ρ G Q := h
theorem revT {ds : List D} {G : GH} {Q : DK} (h : Q (.tup ds.reverse) G) : rRev (.tup ds) G Q := h
theorem revL {ds : List D} {G : GH} {Q : DK} (h : ∀ p, G p = none → Q (.ref p) (updG G p (.lst ds.reverse))) : rRev (.lst ds) G Q := h
theorem iCallG {sp : DSp} {n m : Nat} {src : List (Nat × Nat)} {dv : List D} {ta tk : DTA} {ρ : DSt} {G : GH} {Q : DK} (h : ta ρ G fun ds G1 => tk ρ G1 fun es G2 => ds.length = n ∧ es.length = m ∧ sp (pick src ds dv es) G2 Q noX) : dCallG sp n m src dv ta tk ρ G Q := h
end
end Dl

namespace Dl
open PySem L2
structure ShwA (d : D) : Prop where
  ok : okD d
  few : fewD d = true
  len : (shD d).length ≤ sizeLine
theorem Shw.a {d : D} (h : Shw d) : ShwA d := ⟨h.ok, h.few, h.len⟩
section
variable {X : Cx}
end
end Dl

namespace Dl
open PySem L2
def cleanC (c : Nat) : Bool := (48 ≤ c && c ≤ 57) || (65 ≤ c && c ≤ 90) || c == 95 || (97 ≤ c && c ≤ 122)
def cleanS (x : Str) : Bool := x.cps.toList.all cleanC
mutual
def cleanD : D → Bool
  | .non => true
  | .bl _ => true
  | .int _ => true
  | .str x => cleanS x
  | .tup ds => cleanDs ds
  | .lst ds => cleanDs ds
  | _ => false
def cleanDs : List D → Bool
  | [] => true
  | d :: ds => cleanD d && cleanDs ds
end
def shL (d : D) : List Nat := (shD d).cps.toList
theorem cps_app (a b : Str) : (a ++ b).cps.toList = a.cps.toList ++ b.cps.toList := by
  show (a.cps ++ b.cps).toList = _
  simp
theorem shL_non : shL .non = [78, 111, 110, 101] := by decide +kernel
theorem shL_bl (b : Bool) : shL (.bl b) = if b then [84, 114, 117, 101] else [70, 97, 108, 115, 101] := by cases b <;> decide +kernel
theorem shL_int (i : Int) : shL (.int i) = i.repr.toList.map Char.toNat := by
  show (Str.ofString (toString i)).cps.toList = _
  rw [Str.ofString_eq_toList]
  rfl
theorem clean_print : ∀ c < 123, cleanC c = true → Builtin.Str.reprChar 39 c = [c] := by decide +kernel
theorem clean_lt {c : Nat} (h : cleanC c = true) : c < 123 ∧ c ≠ 39 := by
  simp only [cleanC, Bool.or_eq_true, Bool.and_eq_true, decide_eq_true_eq, beq_iff_eq] at h
  omega
theorem shL_str {x : Str} (h : cleanS x = true) : shL (.str x) = 39 :: x.cps.toList ++ [39] := by
  have hc : ∀ c ∈ x.cps.toList, cleanC c = true := List.all_eq_true.mp h
  have hq : reprQuote x = 39 := by
    unfold reprQuote
    rw [if_neg]
    intro e
    rw [Bool.and_eq_true] at e
    have : 39 ∈ x.cps := Array.contains_iff_mem.mp e.1
    exact (clean_lt (hc 39 (Array.mem_toList_iff.mpr this))).2 rfl
  have fold : ∀ (l : List Nat) (acc : Array Nat), (∀ c ∈ l, cleanC c = true) → (l.foldl (fun out c => out ++ (Builtin.Str.reprChar 39 c).toArray) acc).toList = acc.toList ++ l := by
    intro l
    induction l with
    | nil => intro acc _; simp
    | cons c l ih =>
      intro acc hl
      rw [List.foldl_cons, ih _ fun d hd => hl d (List.mem_cons_of_mem _ hd), clean_print c (clean_lt (hl c (List.mem_cons_self ..))).1 (hl c (List.mem_cons_self ..))]
      simp
  show (reprText x).cps.toList = _
  unfold reprText
  rw [hq, ← Array.foldl_toList]
  show ((x.cps.toList.foldl (fun out c => out ++ (Builtin.Str.reprChar 39 c).toArray) #[39]).push 39).toList = _
  rw [Array.toList_push, fold _ _ hc]
  simp
def rT (cl : Nat) : List D → List Nat
  | [] => [cl]
  | d :: ds => 44 :: 32 :: (shL d ++ rT cl ds)
theorem join_rT (cl : Nat) : ∀ (d : D) (ds : List D), (Str.join ", " (PyData.shownAll (pyDs (d :: ds)))).cps.toList ++ [cl] = shL d ++ rT cl ds
  | d, [] => by
    simp only [pyDs, PyData.shownAll, rT]
    rfl
  | d, e :: ds => by
    have ih := join_rT cl e ds
    simp only [pyDs, PyData.shownAll] at ih ⊢
    rw [show Str.join ", " (PyData.shown (pyD d) :: PyData.shown (pyD e) :: PyData.shownAll (pyDs ds)) = PyData.shown (pyD d) ++ ", " ++ Str.join ", " (PyData.shown (pyD e) :: PyData.shownAll (pyDs ds)) from rfl]
    rw [cps_app, cps_app, List.append_assoc, ih, rT]
    rw [show (Str.ofString ", ").cps.toList = [44, 32] from by decide +kernel]
    simp [shL, shD]
theorem shL_tup (ds : List D) : shL (.tup ds) = match ds with
    | [] => [40, 41]
    | [d] => 40 :: (shL d ++ [44, 41])
    | d :: e :: r => 40 :: (shL d ++ rT 41 (e :: r)) := by
  unfold shL shD
  rw [pyD, PyData.shown]
  unfold tupleText
  match ds with
  | [] => simp only [pyDs, PyData.shownAll]; decide +kernel
  | [d] =>
    simp only [pyDs, PyData.shownAll]
    rw [cps_app, cps_app]
    rw [show (Str.ofString "(").cps.toList = [40] from by decide +kernel]
    rw [show (Str.ofString (if [PyData.shown (pyD d)].length == 1 then ",)" else ")")).cps.toList = [44, 41] from by
      show (Str.ofString ",)").cps.toList = _
      decide +kernel]
    rfl
  | d :: e :: r =>
    have h := join_rT 41 d (e :: r)
    rw [cps_app, cps_app]
    rw [show (Str.ofString "(").cps.toList = [40] from by decide +kernel]
    rw [show (Str.ofString (if (PyData.shownAll (pyDs (d :: e :: r))).length == 1 then ",)" else ")")).cps.toList = [41] from by
      simp only [pyDs, PyData.shownAll]
      show (Str.ofString ")").cps.toList = _
      decide +kernel]
    rw [List.append_assoc, h]
    rfl
theorem text_rT : ∀ (ds : List D) (k : Nat) (acc : Str), (textFrom (k + 1) acc (PyData.shownAll (pyDs ds))).cps.toList ++ [93] = acc.cps.toList ++ rT 93 ds
  | [], k, acc => by simp only [pyDs, PyData.shownAll, textFrom, rT]
  | d :: ds, k, acc => by
    simp only [pyDs, PyData.shownAll, textFrom, rT]
    rw [text_rT ds (k + 1), cps_app, cps_app]
    rw [if_pos (by omega), show (Str.ofString ", ").cps.toList = [44, 32] from by decide +kernel]
    simp [shL, shD]
theorem shL_lst (ds : List D) : shL (.lst ds) = match ds with
    | [] => [91, 93]
    | d :: r => 91 :: (shL d ++ rT 93 r) := by
  unfold shL shD
  rw [pyD, PyData.shown]
  unfold listText
  match ds with
  | [] => simp only [pyDs, PyData.shownAll, textFrom]; decide +kernel
  | d :: r =>
    simp only [pyDs, PyData.shownAll, textFrom]
    rw [cps_app, show (Str.ofString "]").cps.toList = [93] from by decide +kernel, text_rT r 0, cps_app, cps_app]
    rw [if_neg (by omega), show (Str.ofString "").cps.toList = [] from by decide +kernel, show (Str.ofString "[").cps.toList = [91] from by decide +kernel]
    rfl
def Tm (u : List Nat) : Prop := u = [] ∨ ∃ c r, u = c :: r ∧ (c = 44 ∨ c = 41 ∨ c = 93)
theorem tm_rT (cl : Nat) (h : cl = 41 ∨ cl = 93) (ds : List D) (u : List Nat) : Tm (rT cl ds ++ u) := by
  cases ds with
  | nil => exact .inr ⟨cl, u, rfl, by omega⟩
  | cons d ds => exact .inr ⟨44, _, rfl, .inl rfl⟩
theorem cut_tm : ∀ {a b u v : List Nat}, (∀ c ∈ a, c ≠ 44 ∧ c ≠ 41 ∧ c ≠ 93) → (∀ c ∈ b, c ≠ 44 ∧ c ≠ 41 ∧ c ≠ 93) → Tm u → Tm v → a ++ u = b ++ v → a = b ∧ u = v
  | [], [], u, v, _, _, _, _, e => ⟨rfl, e⟩
  | [], y :: b, u, v, _, hb, hu, _, e => by
    have hy := hb y (List.mem_cons_self ..)
    rcases hu with rfl | ⟨c, r, rfl, hc⟩
    · cases e
    · rw [List.nil_append, List.cons_append] at e
      injection e with e1 e2
      omega
  | x :: a, [], u, v, ha, _, _, hv, e => by
    have hx := ha x (List.mem_cons_self ..)
    rcases hv with rfl | ⟨c, r, rfl, hc⟩
    · cases e
    · rw [List.nil_append, List.cons_append] at e
      injection e with e1 e2
      omega
  | x :: a, y :: b, u, v, ha, hb, hu, hv, e => by
    rw [List.cons_append, List.cons_append] at e
    injection e with e1 e2
    obtain ⟨h1, h2⟩ := cut_tm (fun c hc => ha c (List.mem_cons_of_mem _ hc)) (fun c hc => hb c (List.mem_cons_of_mem _ hc)) hu hv e2
    exact ⟨by rw [e1, h1], h2⟩
theorem int_chars {i : Int} {c : Nat} (h : c ∈ shL (.int i)) : c = 45 ∨ (48 ≤ c ∧ c ≤ 57) := by
  by_cases q : c = 45 ∨ (48 ≤ c ∧ c ≤ 57)
  · exact q
  · exact absurd h (PyProof.Rows.shown_int_free' (by omega) i)
theorem int_ne (i : Int) : shL (.int i) ≠ [] := by
  rw [shL_int]
  intro e
  have : i.repr.toList = [] := by simpa using e
  have e2 : i.repr = "" := String.toList_inj.mp (by rw [this]; rfl)
  cases i with
  | ofNat n => exact Nat.repr_ne_empty e2
  | negSucc n =>
    have h2 : "-" ++ Nat.repr (n + 1) = "" := e2
    have h3 := congrArg String.toList h2
    rw [String.toList_append] at h3
    cases h3
theorem int_inj {i j : Int} (h : shL (.int i) = shL (.int j)) : i = j := by
  rw [shL_int, shL_int] at h
  have h3 : i.repr.toList = j.repr.toList := by
    refine List.map_inj_right (f := Char.toNat) ?_ |>.mp h
    intro x y e
    exact Char.ext (UInt32.toNat_inj.mp e)
  exact Int.repr_inj.mp (String.toList_inj.mp h3)
def headC : D → Nat → Prop
  | .non, c => c = 78
  | .bl _, c => c = 84 ∨ c = 70
  | .int _, c => c = 45 ∨ (48 ≤ c ∧ c ≤ 57)
  | .str _, c => c = 39
  | .tup _, c => c = 40
  | .lst _, c => c = 91
  | _, _ => True
theorem head_of : ∀ d : D, cleanD d = true → ∃ c r, shL d = c :: r ∧ headC d c
  | .non, _ => ⟨_, _, shL_non, rfl⟩
  | .bl true, _ => ⟨_, _, (shL_bl true).trans rfl, .inl rfl⟩
  | .bl false, _ => ⟨_, _, (shL_bl false).trans rfl, .inr rfl⟩
  | .int i, _ => by
    cases e : shL (.int i) with
    | nil => exact absurd e (int_ne i)
    | cons c r => exact ⟨c, r, rfl, int_chars (i := i) (by rw [e]; exact List.mem_cons_self ..)⟩
  | .str x, h => ⟨_, _, shL_str (by simpa [cleanD] using h), rfl⟩
  | .tup [], _ => ⟨_, _, shL_tup [], rfl⟩
  | .tup [d], _ => ⟨_, _, shL_tup [d], rfl⟩
  | .tup (d :: e :: r), _ => ⟨_, _, shL_tup (d :: e :: r), rfl⟩
  | .lst [], _ => ⟨_, _, shL_lst [], rfl⟩
  | .lst (d :: r), _ => ⟨_, _, shL_lst (d :: r), rfl⟩
  | .byt _, h => by simp [cleanD] at h
  | .ref _, h => by simp [cleanD] at h
  | .scr _, h => by simp [cleanD] at h
theorem heads {d e : D} (hd : cleanD d = true) (he : cleanD e = true) {u v : List Nat} (h : shL d ++ u = shL e ++ v) : ∃ c, headC d c ∧ headC e c := by
  obtain ⟨c, r, e1, h1⟩ := head_of d hd
  obtain ⟨c', r', e2, h2⟩ := head_of e he
  rw [e1, e2, List.cons_append, List.cons_append] at h
  injection h with h3 h4
  subst h3
  exact ⟨c, h1, h2⟩
theorem cleanS_tm {x : Str} (h : cleanS x = true) : ∀ c ∈ x.cps.toList, c ≠ 39 := fun c hc => (clean_lt (List.all_eq_true.mp h c hc)).2
theorem cut_q : ∀ {a b u v : List Nat}, (∀ c ∈ a, c ≠ 39) → (∀ c ∈ b, c ≠ 39) → a ++ 39 :: u = b ++ 39 :: v → a = b ∧ u = v
  | [], [], u, v, _, _, e => ⟨rfl, by injection e⟩
  | [], y :: b, u, v, _, hb, e => by
    rw [List.nil_append, List.cons_append] at e
    injection e with e1 e2
    exact absurd e1.symm (hb y (List.mem_cons_self ..))
  | x :: a, [], u, v, ha, _, e => by
    rw [List.nil_append, List.cons_append] at e
    injection e with e1 e2
    exact absurd e1 (ha x (List.mem_cons_self ..))
  | x :: a, y :: b, u, v, ha, hb, e => by
    rw [List.cons_append, List.cons_append] at e
    injection e with e1 e2
    obtain ⟨h1, h2⟩ := cut_q (fun c hc => ha c (List.mem_cons_of_mem _ hc)) (fun c hc => hb c (List.mem_cons_of_mem _ hc)) e2
    exact ⟨by rw [e1, h1], h2⟩
theorem int_tm (i : Int) : ∀ c ∈ shL (.int i), c ≠ 44 ∧ c ≠ 41 ∧ c ≠ 93 := fun c hc => by have := int_chars hc; omega
mutual
theorem sh_inj : ∀ (d e : D), cleanD d = true → cleanD e = true → ∀ u v, Tm u → Tm v → shL d ++ u = shL e ++ v → d = e ∧ u = v
  | .non, e, hd, he, u, v, hu, hv, h => by
    obtain ⟨c, h1, h2⟩ := heads hd he h
    cases e <;> simp only [headC] at h1 h2 <;> first | omega | (simp [cleanD] at he; done) | exact ⟨rfl, List.append_cancel_left h⟩
  | .bl a, e, hd, he, u, v, hu, hv, h => by
    obtain ⟨c, h1, h2⟩ := heads hd he h
    cases e with
    | bl b => cases a <;> cases b <;> first | exact ⟨rfl, List.append_cancel_left h⟩ | (rw [shL_bl, shL_bl] at h; simp at h)
    | byt _ => simp [cleanD] at he
    | ref _ => simp [cleanD] at he
    | scr _ => simp [cleanD] at he
    | _ => simp only [headC] at h1 h2; omega
  | .int i, e, hd, he, u, v, hu, hv, h => by
    obtain ⟨c, h1, h2⟩ := heads hd he h
    cases e with
    | int j =>
      obtain ⟨h3, h4⟩ := cut_tm (int_tm i) (int_tm j) hu hv h
      exact ⟨by rw [int_inj h3], h4⟩
    | byt _ => simp [cleanD] at he
    | ref _ => simp [cleanD] at he
    | scr _ => simp [cleanD] at he
    | _ => simp only [headC] at h1 h2; omega
  | .str x, e, hd, he, u, v, hu, hv, h => by
    obtain ⟨c, h1, h2⟩ := heads hd he h
    cases e with
    | str y =>
      simp only [cleanD] at hd he
      rw [shL_str hd, shL_str he] at h
      simp only [List.cons_append, List.append_assoc, List.singleton_append] at h
      injection h with _ h
      obtain ⟨h3, h4⟩ := cut_q (cleanS_tm hd) (cleanS_tm he) h
      refine ⟨?_, h4⟩
      obtain ⟨xa⟩ := x
      obtain ⟨ya⟩ := y
      have : xa = ya := Array.toList_inj.mp h3
      rw [this]
    | byt _ => simp [cleanD] at he
    | ref _ => simp [cleanD] at he
    | scr _ => simp [cleanD] at he
    | _ => simp only [headC] at h1 h2; omega
  | .tup ds, e, hd, he, u, v, hu, hv, h => by
    obtain ⟨c, h1, h2⟩ := heads hd he h
    cases e with
    | tup es =>
      simp only [cleanD] at hd he
      match ds, es, hd, he, h with
      | [], [], _, _, h => exact ⟨rfl, List.append_cancel_left h⟩
      | [], [b], _, he, h =>
        rw [shL_tup, shL_tup] at h
        simp only [List.cons_append] at h
        injection h with _ h
        simp only [cleanDs, Bool.and_eq_true] at he
        obtain ⟨c, r, e1, h3⟩ := head_of b he.1
        rw [e1, List.cons_append, List.cons_append] at h
        injection h with h4 _
        subst h4
        cases b <;> simp only [headC] at h3 <;> first | omega | (simp [cleanD] at he; done)
      | [], b :: b2 :: es, _, he, h =>
        rw [shL_tup, shL_tup] at h
        simp only [List.cons_append] at h
        injection h with _ h
        simp only [cleanDs, Bool.and_eq_true] at he
        obtain ⟨c, r, e1, h3⟩ := head_of b he.1
        rw [e1, List.cons_append, List.cons_append] at h
        injection h with h4 _
        subst h4
        cases b <;> simp only [headC] at h3 <;> first | omega | (simp [cleanD] at he; done)
      | [a], [], hd, _, h =>
        rw [shL_tup, shL_tup] at h
        simp only [List.cons_append] at h
        injection h with _ h
        simp only [cleanDs, Bool.and_eq_true] at hd
        obtain ⟨c, r, e1, h3⟩ := head_of a hd.1
        rw [e1, List.cons_append, List.cons_append] at h
        injection h with h4 _
        subst h4
        cases a <;> simp only [headC] at h3 <;> first | omega | (simp [cleanD] at hd; done)
      | a :: a2 :: ds, [], hd, _, h =>
        rw [shL_tup, shL_tup] at h
        simp only [List.cons_append] at h
        injection h with _ h
        simp only [cleanDs, Bool.and_eq_true] at hd
        obtain ⟨c, r, e1, h3⟩ := head_of a hd.1
        rw [e1, List.cons_append, List.cons_append] at h
        injection h with h4 _
        subst h4
        cases a <;> simp only [headC] at h3 <;> first | omega | (simp [cleanD] at hd; done)
      | [a], [b], hd, he, h =>
        rw [shL_tup, shL_tup] at h
        simp only [List.cons_append, List.append_assoc] at h
        injection h with _ h
        simp only [cleanDs, Bool.and_eq_true] at hd he
        obtain ⟨h3, h4⟩ := sh_inj a b hd.1 he.1 _ _ (.inr ⟨44, _, rfl, .inl rfl⟩) (.inr ⟨44, _, rfl, .inl rfl⟩) h
        simp only [List.cons_append, List.nil_append] at h4
        injection h4 with _ h4
        injection h4 with _ h4
        exact ⟨by rw [h3], h4⟩
      | [a], b :: b2 :: es, hd, he, h =>
        rw [shL_tup, shL_tup] at h
        simp only [List.cons_append, List.append_assoc] at h
        injection h with _ h
        simp only [cleanDs, Bool.and_eq_true] at hd he
        obtain ⟨h3, h4⟩ := sh_inj a b hd.1 he.1 _ _ (.inr ⟨44, _, rfl, .inl rfl⟩) (tm_rT 41 (.inl rfl) _ _) h
        simp only [rT, List.cons_append, List.nil_append] at h4
        injection h4 with _ h4
        injection h4 with h5 _
        omega
      | a :: a2 :: ds, [b], hd, he, h =>
        rw [shL_tup, shL_tup] at h
        simp only [List.cons_append, List.append_assoc] at h
        injection h with _ h
        simp only [cleanDs, Bool.and_eq_true] at hd he
        obtain ⟨h3, h4⟩ := sh_inj a b hd.1 he.1 _ _ (tm_rT 41 (.inl rfl) _ _) (.inr ⟨44, _, rfl, .inl rfl⟩) h
        simp only [rT, List.cons_append, List.nil_append] at h4
        injection h4 with _ h4
        injection h4 with h5 _
        omega
      | a :: a2 :: ds, b :: b2 :: es, hd, he, h =>
        rw [shL_tup, shL_tup] at h
        simp only [List.cons_append, List.append_assoc] at h
        injection h with _ h
        rw [cleanDs, Bool.and_eq_true] at hd he
        obtain ⟨h3, h4⟩ := sh_inj a b hd.1 he.1 _ _ (tm_rT 41 (.inl rfl) _ _) (tm_rT 41 (.inl rfl) _ _) h
        obtain ⟨h5, h6⟩ := rT_inj 41 (.inl rfl) (a2 :: ds) (b2 :: es) hd.2 he.2 u v h4
        exact ⟨by rw [h3, h5], h6⟩
    | byt _ => simp [cleanD] at he
    | ref _ => simp [cleanD] at he
    | scr _ => simp [cleanD] at he
    | _ => simp only [headC] at h1 h2; omega
  | .lst ds, e, hd, he, u, v, hu, hv, h => by
    obtain ⟨c, h1, h2⟩ := heads hd he h
    cases e with
    | lst es =>
      simp only [cleanD] at hd he
      match ds, es, hd, he, h with
      | [], [], _, _, h => exact ⟨rfl, List.append_cancel_left h⟩
      | [], b :: es, _, he, h =>
        rw [shL_lst, shL_lst] at h
        simp only [List.cons_append] at h
        injection h with _ h
        simp only [cleanDs, Bool.and_eq_true] at he
        obtain ⟨c, r, e1, h3⟩ := head_of b he.1
        rw [e1, List.cons_append, List.cons_append] at h
        injection h with h4 _
        subst h4
        cases b <;> simp only [headC] at h3 <;> first | omega | (simp [cleanD] at he; done)
      | a :: ds, [], hd, _, h =>
        rw [shL_lst, shL_lst] at h
        simp only [List.cons_append] at h
        injection h with _ h
        simp only [cleanDs, Bool.and_eq_true] at hd
        obtain ⟨c, r, e1, h3⟩ := head_of a hd.1
        rw [e1, List.cons_append, List.cons_append] at h
        injection h with h4 _
        subst h4
        cases a <;> simp only [headC] at h3 <;> first | omega | (simp [cleanD] at hd; done)
      | a :: ds, b :: es, hd, he, h =>
        rw [shL_lst, shL_lst] at h
        simp only [List.cons_append, List.append_assoc] at h
        injection h with _ h
        rw [cleanDs, Bool.and_eq_true] at hd he
        obtain ⟨h3, h4⟩ := sh_inj a b hd.1 he.1 _ _ (tm_rT 93 (.inr rfl) _ _) (tm_rT 93 (.inr rfl) _ _) h
        obtain ⟨h5, h6⟩ := rT_inj 93 (.inr rfl) ds es hd.2 he.2 u v h4
        exact ⟨by rw [h3, h5], h6⟩
    | byt _ => simp [cleanD] at he
    | ref _ => simp [cleanD] at he
    | scr _ => simp [cleanD] at he
    | _ => simp only [headC] at h1 h2; omega
  | .byt _, _, hd, _, _, _, _, _, _ => by simp [cleanD] at hd
  | .ref _, _, hd, _, _, _, _, _, _ => by simp [cleanD] at hd
  | .scr _, _, hd, _, _, _, _, _, _ => by simp [cleanD] at hd
theorem rT_inj (cl : Nat) (hcl : cl = 41 ∨ cl = 93) : ∀ (ds es : List D), cleanDs ds = true → cleanDs es = true → ∀ u v, rT cl ds ++ u = rT cl es ++ v → ds = es ∧ u = v
  | [], [], _, _, u, v, h => ⟨rfl, List.append_cancel_left h⟩
  | [], b :: es, _, _, u, v, h => by
    simp only [rT, List.cons_append] at h
    injection h with h1 _
    omega
  | a :: ds, [], _, _, u, v, h => by
    simp only [rT, List.cons_append] at h
    injection h with h1 _
    omega
  | a :: ds, b :: es, hd, he, u, v, h => by
    simp only [rT, List.cons_append, List.append_assoc] at h
    injection h with _ h
    injection h with _ h
    rw [cleanDs, Bool.and_eq_true] at hd he
    obtain ⟨h3, h4⟩ := sh_inj a b hd.1 he.1 _ _ (tm_rT cl hcl _ _) (tm_rT cl hcl _ _) h
    obtain ⟨h5, h6⟩ := rT_inj cl hcl ds es hd.2 he.2 u v h4
    exact ⟨by rw [h3, h5], h6⟩
end
theorem shD_inj {d e : D} (hd : cleanD d = true) (he : cleanD e = true) (h : shD d = shD e) : d = e := by
  refine (sh_inj d e hd he [] [] (.inl rfl) (.inl rfl) ?_).1
  rw [List.append_nil, List.append_nil]
  unfold shL
  rw [h]
end Dl

namespace Dl
open PySem L2
theorem ifNDT {A B p : Prop} [Decidable p] (h : p) (b : B) : if (!decide p) = true then A else B := by rw [decide_eq_true h, if_neg (by decide)]; exact b
theorem ifNDF {A B p : Prop} [Decidable p] (h : ¬ p) (a : A) : if (!decide p) = true then A else B := by rw [decide_eq_false h, if_pos (by decide)]; exact a
theorem iNeg {te : DTE} {ρ : DSt} {G : GH} {Q : DK} (h : te ρ G fun d G1 => match d with
  | .int i => Q (.int (-i)) G1
  | _ => False) : dNeg te ρ G Q := h
theorem vw_of {G : GH} {d : D} (h : pureD d = true) : vw G d = d := by
  cases d with
  | ref a => simp [pureD] at h
  | _ => rfl
theorem beqStr (a b : Str) : (a == b) = decide (a = b) := by
  by_cases h : a = b
  · subst h; simp
  · rw [decide_eq_false h, beq_eq_false_iff_ne]; exact h
theorem cmp_i {f : Bool → Bool} {x y : D} {G : GH} {Q : DK} (hx : okD x) (hy : okD y) (h : Q (.bl (f (eqvD x y))) G) : rCmp f x y G Q := by
  unfold rCmp
  rw [vw_of hx.1, vw_of hy.1]
  cases x with
  | str a =>
    cases y with
    | str b => dsimp only; rw [eqvD, beqStr] at h; exact h
    | _ => exact ⟨hx, hy, h⟩
  | int a =>
    cases y with
    | int b => dsimp only; rw [eqvD] at h; exact h
    | _ => exact ⟨hx, hy, h⟩
  | _ => exact ⟨hx, hy, h⟩
theorem eq_i {x y : D} {G : GH} {Q : DK} (hx : okD x) (hy : okD y) (h : Q (.bl (eqvD x y)) G) : rCmp id x y G Q := cmp_i hx hy h
theorem ne_i {x y : D} {G : GH} {Q : DK} (hx : okD x) (hy : okD y) (h : Q (.bl (!eqvD x y)) G) : rCmp not x y G Q := cmp_i hx hy h
theorem isN_T {G : GH} {Q : DK} (h : Q (.bl true) G) : rIsN id .non .non G Q := h
theorem isN_F {d : D} {G : GH} {Q : DK} (e : isNonD d = false) (h : Q (.bl false) G) : rIsN id d .non G Q := by
  show Q (.bl (id (isNonD d))) G
  rw [e]; exact h
end Dl

namespace Dl
open PySem L2
section
variable {X : Cx}
end
@[simp] def rIxA : DR2 := fun x y G Q => match x with
  | .str z => (match y with
    | .int i => z.length ≤ sizeLine ∧ (match atI z.cps.toList i with
      | some c => Q (.str ⟨#[c]⟩) G
      | none => False)
    | _ => False)
  | x => Dl.rIx x y G Q
section
variable {X : Cx}
theorem x_ixA : IxR X (upR X.K rIxA) := by
  intro ve sx pins s σ H x y v u Q I rx ry ⟨G, dx, dy, q, g, r1, r2, h, k⟩ hsub
  cases dx with
  | str z =>
    cases dy with
    | int i =>
      cases rv_int r2
      cases rv_str r1
      dsimp only [rIxA] at h
      obtain ⟨hz, h⟩ := h
      cases e : atI z.cps.toList i with
      | none => rw [e] at h; exact h.elim
      | some c =>
        rw [e] at h
        exact ix_str ve sx pins s σ H _ _ v u Q I rx ry ⟨z, i, c, rfl, rfl, hz, e, k _ _ H G (Ext.refl G H) g str_rv h⟩ hsub
    | _ => exact h.elim
  | _ => exact x_ix ve sx pins s σ H x y v u Q I rx ry ⟨G, _, dy, q, g, r1, r2, h, k⟩ hsub
theorem de_ixA {a b : Expr} {ta tb : DTE} {pos : Pos} (ha : DE X a ta) (hb : DE X b tb) (hs : PlainIx b := by exact fun _ _ => rfl) : DE X (.Subscript a b pos) (dOp rIxA ta tb) := (pe_ix x_ixA ha hb hs).imp fun _ _ _ h => up_op h
end
theorem ixA_t {l : List D} {i : Int} {d : D} {G : GH} {Q : DK} (e : atI l i = some d) (h : Q d G) : rIxA (.tup l) (.int i) G Q := by
  show Dl.rIx (.tup l) (.int i) G Q
  exact rIx_i (x := .tup l) (ds := l) (by with_unfolding_all rfl) e h
theorem ixA_s {z : Str} {i : Int} {c : Nat} {G : GH} {Q : DK} (hz : z.length ≤ sizeLine) (e : atI z.cps.toList i = some c) (h : Q (.str ⟨#[c]⟩) G) : rIxA (.str z) (.int i) G Q := by
  refine ⟨hz, ?_⟩
  rw [e]; exact h
end Dl

namespace Dl
open PySem L2
end Dl

namespace Dl
open PySem PySem.Spec PyProof.Rows L2
section
variable {prog : Program} {w : World} {A : Around} {R : Result → Shared → Prop} {s : Shared} {env : Env} {elt ta ia tb ib : Expr} {sc : Scope} {pos : Pos} {it acc : Value}
abbrev calmly (P : Program) (w : World) (A : Around) {α : Type} (t : Sem α) (Q : α → Shared → Prop) (s : Shared) : Prop := wpAny (model P w) A t Q (fun _ _ => False) s
theorem calmly.go {P : Program} {α : Type} {t : Sem α} {Q Q' : α → Shared → Prop} {E : Value → Shared → Prop} (h : calmly P w A t Q s) (k : ∀ a s', Q a s' → Q' a s') : wpAny (model P w) A t Q' E s :=
  wpAny_mono h k fun _ _ z => z.elim
end
end Dl

namespace Dl
open PySem PySem.Spec PyProof.Rows L2
section
variable {Y : Cx} {tg : Expr} {J : It} {fp : List Addr} {it : Addr} {tn : Nat → Heap → Prop} {pins : List (Addr × Obj)} {σ : L2.St} {H : Hp} {s : Shared} {g : TG}
end
section
variable {X : Cx}
end
end Dl

namespace Dl
open PySem PySem.Spec PyProof.Rows L2
section
variable {P : Program} {w : World} {A : Around} {E : Value → Shared → Prop} {s : Shared}
end
end Dl

namespace Dl
open PySem PySem.Spec PyProof.Rows L2
section
variable {P : Program} {w : World} {A : Around} {E : Value → Shared → Prop} {s : Shared} {a : Addr}
end
section
variable {X : Cx}
end
end Dl

namespace Dl
open PySem L2
section
variable {K : PySem.W.Frag} {w : World}
end
section
variable {X : Cx}
end
end Dl

namespace Dl
open PySem L2
section
variable {X : Cx}
end
section
variable {te ta tb : DTE} {ρ : DSt} {G : GH} {Q : DK}
end
end Dl

namespace Dl
open PySem L2
structure FCallee (P : Program) (w : World) (K : PySem.W.Frag) (mg : Str → Option Value) (base : Heap) (k : Nat) (x : Str) (ps : List Str) (sp : DSp) : Prop where
  ex : ∃ f fd, FnOk P w K mg base CX0 k f fd ps (toSp K sp) ∧ mg x = some (.ref f) ∧ PySem.W.keepIn K (.ref f) = true ∧ Binds K fd ps [] ∧ KwB K fd ps ps (fun l => l)
section
variable {P : Program} {w : World} {K : PySem.W.Frag} {mg : Str → Option Value} {base : Heap} {j k : Nat} {x : Str} {ps : List Str} {sp : DSp}
theorem FCallee.up (C : FCallee P w K mg base j x ps sp) (h : j ≤ k) : FCallee P w K mg base k x ps sp := by
  obtain ⟨f, fd, F, a⟩ := C.ex
  exact ⟨f, fd, F.mono h, a⟩
end
section
variable {X : Cx} {k : Nat} {x : Str} {ps : List Str} {sp : DSp} {p pos : Pos} {e : Expr} {es : List Expr} {ta : DTA}
end
section
variable {P : Program} {w : World} {K : PySem.W.Frag} {mg : Str → Option Value} {base : Heap} {x qual : Str} {params : Arguments} {body : List Stmt} {scope : Scope} {f : Addr} {fd : FuncData} {N ps : List Str} {k : Nat} {sp : DSp} {t : DTS}
end
end Dl

namespace Dl
open PySem L2
section
variable {X : Cx}
theorem _root_.L2.GS.imp {st : Stmt} {t t' : TGn} (h : GS X st t) (i : ∀ D ys σ H, t' D ys σ H → t D ys σ H) : GS X st t' :=
  ⟨fun A S ip R n ys s0 c fs K J gd lv s σ H D g hn k hI ht => h.run A S ip R n ys s0 c fs K J gd lv s σ H D g hn k hI (i _ _ _ _ ht)⟩
theorem _root_.L2.GSs.imp {st : List Stmt} {t t' : TGn} (h : GSs X st t) (i : ∀ D ys σ H, t' D ys σ H → t D ys σ H) : GSs X st t' :=
  ⟨fun A S ip R n ys s0 c fs K J gd lv s σ H D g hn k hI ht => h.run A S ip R n ys s0 c fs K J gd lv s σ H D g hn k hI (i _ _ _ _ ht)⟩
end
structure DGE where
  nx : List D → DSt → GH → Prop
  rt : List D → DK
  bk : List D → DSt → GH → Prop := fun _ _ _ => False
  ct : List D → DSt → GH → Prop := fun _ _ _ => False
abbrev DTY := DGE → List D → DSt → GH → Prop
def DGE.at (E : DGE) (ds : List D) : DEnds := { nx := E.nx ds, rt := E.rt ds, bk := E.bk ds, ct := E.ct ds }
section
variable {X : Cx}
end
end Dl

namespace Dl
open PySem L2
abbrev DSpG := List D → GH → (List D → GH → Prop) → Prop
def toSpG (K : PySem.W.Frag) (sp : DSpG) : SpG := fun vs H Qv _ => ∃ ds G q, RepL K G H ds vs ∧ GOk K G H ∧ sp ds G q ∧
  ∀ zs es H' G', Ext G H G' H' → GOk K G' H' → RepL K G' H' es zs → q es G' → Qv zs H'
structure GCallee (P : Program) (w : World) (K : PySem.W.Frag) (mg : Str → Option Value) (base : Heap) (k : Nat) (x : Str) (ps : List Str) (sp : DSpG) : Prop where
  ex : ∃ j f fd, j + 3 ≤ k ∧ L2.GFn P w K mg base j f fd ps (toSpG K sp) ∧ mg x = some (.ref f) ∧ PySem.W.keepIn K (.ref f) = true ∧ Binds K fd ps []
section
variable {P : Program} {w : World} {K : PySem.W.Frag} {mg : Str → Option Value} {base : Heap} {j k : Nat} {x : Str} {ps : List Str} {sp : DSpG}
theorem GCallee.up (C : GCallee P w K mg base j x ps sp) (h : j ≤ k) : GCallee P w K mg base k x ps sp := by
  obtain ⟨i, f, fd, hi, a⟩ := C.ex
  exact ⟨i, f, fd, Nat.le_trans hi h, a⟩
variable {qual : Str} {params : Arguments} {body : List Stmt} {scope : Scope} {f : Addr} {fd : FuncData} {N : List Str} {t : DTY}
end
section
variable {X : Cx} {k : Nat} {x : Str} {ps : List Str} {sp : DSpG} {p p2 pos pos2 : Pos} {e : Expr} {es : List Expr} {ta : DTA}
end
section
variable {X : Cx}
end
end Dl

namespace Dl
open PySem L2
mutual
theorem plain_py : ∀ d : D, (pyD d).plain = true
  | .non => rfl
  | .bl _ => rfl
  | .int _ => rfl
  | .str _ => rfl
  | .tup ds => by rw [pyD, PyData.plain]; exact plains_py ds
  | .lst ds => by rw [pyD, PyData.plain]; exact plains_py ds
  | .byt _ => rfl
  | .ref _ => rfl
  | .scr _ => rfl
theorem plains_py : ∀ ds : List D, PyData.plainAll (pyDs ds) = true
  | [] => rfl
  | d :: ds => by rw [pyDs, PyData.plainAll, plain_py d, plains_py ds]; rfl
end
section
variable {X : Cx}
theorem vw_pure {G : GH} {d : D} (h : pureD d = true) : vw G d = d := by
  cases d with
  | ref a => simp [pureD] at h
  | _ => rfl
end
end Dl

namespace Dl
open PySem L2
section
variable {X : Cx}
end
end Dl

namespace Dl
open PySem L2 PySem.W PySem.SeqAt PyProof.Rows
open AutoSeq1 (wpAny_loadPart')
open MeetsSeq MeetsSeq2 MeetsSeq3 SeqRoads2
structure LtAsk (A : Around) (s : Shared) (p q : Array Value) (e r : Nat → Bool) : Prop where
  eq : ∀ j (h1 : j < p.size) (h2 : j < q.size), (∀ i, i < j → e i = true) → EqAt A s p[j] q[j] (e j)
  lt : ∀ j (h1 : j < p.size) (h2 : j < q.size), (∀ i, i < j → e i = true) → e j = false → RcLt A s p[j] q[j] (r j)
abbrev ltFrom (p q : Array Value) (e r : Nat → Bool) (i : Nat) : Bool := firstLt e r (decide (p.size < q.size)) ((List.range (min p.size q.size)).drop i)
theorem lt_meets (l b : Addr) (p q : Array Value) (n m : Nat) (d1 d2 : Option Addr) (t1 t2 : Array (Option Value)) (e r : Nat → Bool) :
    Meets (Builtin.«tuple.__lt__» ⟨[.ref l, .ref b], []⟩)
      (fun A R s => s.heap.get? l = some { cls := .type "tuple", dict := d1, data := .seq p n, slots := t1 } ∧
        s.heap.get? b = some { cls := .type "tuple", dict := d2, data := .seq q m, slots := t2 } ∧
        LtAsk A.in1 s p q e r ∧ R (.ok (.ret (.bool (ltFrom p q e r 0)))) s) :=
  .of_wp fun prog w A R s h => by
    obtain ⟨hp, g, d, tk, os⟩ := s
    obtain ⟨hl, hb, ask, fin⟩ := h
    have sub2 := AutoSeq1.sub_tuple_tuple
    have hZ : (p.toList.zip q.toList).length = min p.size q.size := by simp
    wp_walk using wpAny_loadPart' hl, wpAny_loadPart' hb, wpAny_forIn_list _ (fun rest c s' => c.1 = none ∧ s' = ⟨hp, g, d, tk, os⟩ ∧ ∃ i, rest = (p.toList.zip q.toList).drop i ∧
      (∀ k, k < i → e k = true) ∧ R (.ok (.ret (.bool (ltFrom p q e r i)))) ⟨hp, g, d, tk, os⟩) _
    case turn =>
      rintro ⟨y, x⟩ rest c s' ⟨hc, rfl, i, hz, hpre, hR⟩
      have hlt : i < (p.toList.zip q.toList).length := by
        rcases Nat.lt_or_ge i (p.toList.zip q.toList).length with z | z
        · exact z
        · rw [List.drop_of_length_le z] at hz; cases hz
      have hm : i < min p.size q.size := by omega
      have h1 : i < p.size := by omega
      have h2 : i < q.size := by omega
      rw [List.drop_eq_getElem_cons hlt] at hz
      injection hz with hyx hrest
      obtain rfl : y = p[i] := by simpa using congrArg Prod.fst hyx
      obtain rfl : x = q[i] := by simpa using congrArg Prod.snd hyx
      have hd : (List.range (min p.size q.size)).drop i = i :: (List.range (min p.size q.size)).drop (i + 1) := by
        simp [List.drop_eq_getElem_cons, hm]
      unfold ltFrom at hR
      rw [hd] at hR
      refine wpAny_bind (ask.eq i h1 h2 hpre prog w _ _ ?_)
      cases hy : e i with
      | true =>
        rw [firstLt_yes hy] at hR
        wp_walk
        refine ⟨rfl, rfl, i + 1, hrest, fun k hk => ?_, hR⟩
        rcases Nat.lt_or_ge k i with z | z
        · exact hpre k z
        · rw [show k = i from by omega]; exact hy
      | false =>
        rw [firstLt_no hy] at hR
        have go := ask.lt i h1 h2 hpre hy
        unfold RcLt at go
        generalize hg : @PySem.richCompare = rc at go ⊢
        wp_walk
        refine go prog w _ _ ?_
        wp_walk
        exact ⟨_, rfl, hR⟩
    case fin =>
      rintro ⟨c1, c2⟩ s' ⟨hc, rfl, i, hz, hpre, hR⟩
      simp only at hc
      subst hc
      have hge : min p.size q.size ≤ i := by
        rcases Nat.lt_or_ge i (p.toList.zip q.toList).length with z | z
        · rw [List.drop_eq_getElem_cons z] at hz; cases hz
        · omega
      unfold ltFrom at hR
      rw [List.drop_of_length_le (by simpa using hge)] at hR
      wp_walk
      exact ⟨_, rfl, by simpa [Builtin.Tuple.tupleCompareSizes, firstLt] using hR⟩
    case h =>
      exact ⟨rfl, rfl, 0, rfl, fun k hk => absurd hk (Nat.not_lt_zero _), fin⟩
theorem rcTup {A : Around} {s : Shared} {l b : Addr} {p q : Array Value} {e r : Nat → Bool} (hl : s.heap.IsTuple l p) (hb : s.heap.IsTuple b q) (hu : A.units < cLine) (ask : LtAsk A.in1 s p q e r) :
    RcLt A s (.ref l) (.ref b) (ltFrom p q e r 0) := fun prog w E Q h => by
  obtain ⟨⟨c1, d1, t1, s1⟩, ho, hc, n, hd⟩ := id hl
  obtain ⟨⟨c2, d2, t2, s2⟩, ho2, hc2, m, hd2⟩ := id hb
  simp only at hc hd hc2 hd2
  subst hc hd hc2 hd2
  refine richCompare_meets_room (op := .Lt) ⟨_, ho, rfl⟩ ⟨_, ho2, rfl⟩ F.slot_tuple_lt F.entry_tuple_lt (F.args_tuple_lt_2 _ _) (lt_meets l b p q n m d1 d2 s1 s2 e r) ⟨ho, ho2, ask, ?_⟩ hu
  exact show Value.bool _ ≠ Value.notImplemented ∧ _ from ⟨(fun x => nomatch x), h⟩
end Dl

namespace Dl
open PySem L2 PySem.W PySem.SeqAt PyProof.Rows
mutual
/-- of like kinds as far as they agree, and where they first differ -/
def cmpb : PyData → PyData → Bool
  | .bool _, .bool _ => true
  | .int _, .int _ => true
  | .str _, .str _ => true
  | .tuple xs, .tuple ys => cmpbs xs ys
  | _, _ => false
def cmpbs : List PyData → List PyData → Bool
  | x :: xs, y :: ys => cmpb x y && (!PyData.eqv x y || cmpbs xs ys)
  | _, _ => true
end
abbrev tlt (a b : List (Int ⊕ List Nat)) : Bool := lexLt itemOrd a b
theorem tlt_atom {t u : Int ⊕ List Nat} (h : t ≠ u) (l m : List (Int ⊕ List Nat)) : tlt ([t] ++ l) ([u] ++ m) = tlt [t] [u] := by
  show lexLt itemOrd (t :: l) (u :: m) = lexLt itemOrd [t] [u]
  rw [lex_diff (O := itemOrd) h, lex_diff (O := itemOrd) h]
theorem cmpbs_cons {x y : PyData} {xs ys : List PyData} (h : cmpbs (x :: xs) (y :: ys) = true) : cmpb x y = true ∧ (PyData.eqv x y = true → cmpbs xs ys = true) := by
  rw [cmpbs, Bool.and_eq_true] at h
  refine ⟨h.1, fun e => ?_⟩
  have := h.2
  rw [e] at this
  simpa using this
mutual
theorem toks_c : ∀ x y : PyData, cmpb x y = true → (PyData.eqv x y = true → keyToks x = keyToks y) ∧ (PyData.eqv x y = false → ∀ l m, tlt (keyToks x ++ l) (keyToks y ++ m) = tlt (keyToks x) (keyToks y))
  | .bool a, y, h => by
    cases y with
    | bool b =>
      simp only [keyToks, PyData.eqv]
      refine ⟨fun e => ?_, fun e l m => tlt_atom ?_ l m⟩
      · have : a = b := by simpa using e
        rw [this]
      · cases a <;> cases b <;> simp at e ⊢
    | _ => simp [cmpb] at h
  | .int a, y, h => by
    cases y with
    | int b =>
      simp only [keyToks, PyData.eqv]
      refine ⟨fun e => ?_, fun e l m => tlt_atom ?_ l m⟩
      · have : a = b := by simpa using e
        rw [this]
      · have : a ≠ b := by simpa using e
        simpa using this
    | _ => simp [cmpb] at h
  | .str a, y, h => by
    cases y with
    | str b =>
      simp only [keyToks, PyData.eqv]
      refine ⟨fun e => ?_, fun e l m => tlt_atom ?_ l m⟩
      · have : a = b := by simpa using e
        rw [this]
      · have : a ≠ b := by simpa using e
        intro z
        exact this (str_of_cps (by simpa using z))
    | _ => simp [cmpb] at h
  | .tuple xs, y, h => by
    cases y with
    | tuple ys =>
      simp only [keyToks, PyData.eqv]
      exact toks_cs xs ys (by simpa [cmpb] using h)
    | _ => simp [cmpb] at h
  | .none, y, h => by cases y <;> simp [cmpb] at h
  | .list _, y, h => by cases y <;> simp [cmpb] at h
  | .dict _, y, h => by cases y <;> simp [cmpb] at h
theorem toks_cs : ∀ xs ys : List PyData, cmpbs xs ys = true → (PyData.eqvAll xs ys = true → keyToksAll xs = keyToksAll ys) ∧ (PyData.eqvAll xs ys = false → ∀ l m, tlt (keyToksAll xs ++ l) (keyToksAll ys ++ m) = tlt (keyToksAll xs) (keyToksAll ys))
  | [], [], _ => ⟨fun _ => rfl, fun e => by simp [PyData.eqvAll] at e⟩
  | [], y :: ys, _ => by
    refine ⟨fun e => by simp [PyData.eqvAll] at e, fun _ l m => ?_⟩
    rw [toks_all_cons]
    simp only [keyToksAll, List.cons_append]
    show lexLt itemOrd _ _ = lexLt itemOrd _ _
    rw [lex_diff (O := itemOrd) (by simp), lex_diff (O := itemOrd) (by simp)]
  | x :: xs, [], _ => by
    refine ⟨fun e => by simp [PyData.eqvAll] at e, fun _ l m => ?_⟩
    rw [toks_all_cons]
    simp only [keyToksAll, List.cons_append]
    show lexLt itemOrd _ _ = lexLt itemOrd _ _
    rw [lex_diff (O := itemOrd) (by simp), lex_diff (O := itemOrd) (by simp)]
  | x :: xs, y :: ys, h => by
    obtain ⟨h1, h2⟩ := cmpbs_cons h
    have k1 := toks_c x y h1
    rw [eqv_all_cons, toks_all_cons, toks_all_cons]
    cases e : PyData.eqv x y with
    | true =>
      have k2 := toks_cs xs ys (h2 e)
      rw [Bool.true_and, k1.1 e]
      refine ⟨fun e2 => by rw [k2.1 e2], fun e2 l m => ?_⟩
      have := k2.2 e2 l m
      simp only [List.cons_append, List.append_assoc]
      show lexLt itemOrd _ _ = lexLt itemOrd _ _
      rw [lex_self, lex_self, lex_pre, lex_pre]
      exact this
    | false =>
      refine ⟨fun e2 => by simp at e2, fun _ l m => ?_⟩
      simp only [List.cons_append, List.append_assoc]
      show lexLt itemOrd _ _ = lexLt itemOrd _ _
      rw [lex_self, lex_self]
      exact (k1.2 e _ _).trans (k1.2 e _ _).symm
end
theorem tlt_yes {x y : PyData} {xs ys : List PyData} (h : cmpb x y = true) (e : PyData.eqv x y = true) : tlt (keyToksAll (x :: xs)) (keyToksAll (y :: ys)) = tlt (keyToksAll xs) (keyToksAll ys) := by
  rw [toks_all_cons, toks_all_cons, (toks_c x y h).1 e]
  show lexLt itemOrd _ _ = lexLt itemOrd _ _
  rw [lex_self, lex_pre]
theorem tlt_no {x y : PyData} {xs ys : List PyData} (h : cmpb x y = true) (e : PyData.eqv x y = false) : tlt (keyToksAll (x :: xs)) (keyToksAll (y :: ys)) = dataLt x y := by
  rw [toks_all_cons, toks_all_cons]
  show lexLt itemOrd _ _ = lexLt itemOrd _ _
  rw [lex_self]
  exact (toks_c x y h).2 e _ _
theorem tlt_short (y : PyData) (ys : List PyData) : tlt (keyToksAll []) (keyToksAll (y :: ys)) = true ∧ tlt (keyToksAll (y :: ys)) (keyToksAll []) = false := by
  rw [toks_all_cons]
  simp only [keyToksAll]
  constructor
  · show lexLt itemOrd _ _ = true
    rw [lex_diff (O := itemOrd) (by simp)]; decide
  · show lexLt itemOrd _ _ = false
    rw [lex_diff (O := itemOrd) (by simp)]; decide
theorem first_c : ∀ xs ys : List PyData, cmpbs xs ys = true →
    firstLt (pairEq xs ys) (fun j => dataLt (xs.getD j .none) (ys.getD j .none)) (decide (xs.length < ys.length)) (List.range (min xs.length ys.length)) = tlt (keyToksAll xs) (keyToksAll ys)
  | [], [], _ => by simp [firstLt, lex_irrefl]
  | [], y :: ys, _ => by rw [(tlt_short y ys).1]; simp [firstLt]
  | x :: xs, [], _ => by rw [(tlt_short x xs).2]; simp [firstLt]
  | x :: xs, y :: ys, h => by
    obtain ⟨h1, h2⟩ := cmpbs_cons h
    rw [show min (x :: xs).length (y :: ys).length = min xs.length ys.length + 1 from by simp only [List.length_cons]; omega, List.range_succ_eq_map,
      show decide ((x :: xs).length < (y :: ys).length) = decide (xs.length < ys.length) from by rw [decide_eq_decide]; simp only [List.length_cons]; omega]
    cases e : PyData.eqv x y with
    | true =>
      rw [firstLt_yes (show pairEq (x :: xs) (y :: ys) 0 = true from e), firstLt_map, tlt_yes h1 e, ← first_c xs ys (h2 e)]
      rfl
    | false =>
      rw [firstLt_no (show pairEq (x :: xs) (y :: ys) 0 = false from e), tlt_no h1 e]
      rfl
mutual
/-- a < b of such data -/
theorem rc_c : ∀ (da db : PyData) (A : Around) (s : Shared) (a b : Value) (as bs : List Addr), Reads s.heap a da as → Reads s.heap b db bs → cmpb da db = true → da.plain = true → db.plain = true →
    A.units + min da.depth db.depth < cLine → RcLt A s a b (dataLt da db)
  | .bool x, db, A, s, a, b, as, bs, ra, rb, h, _, _, _ => by
    cases db with
    | bool y => cases ra; cases rb; intro prog w E Q q; rw [dataLt_bool] at q; exact lt_bool q
    | _ => simp [cmpb] at h
  | .int x, db, A, s, a, b, as, bs, ra, rb, h, _, _, _ => by
    cases db with
    | int y => cases ra; cases rb; intro prog w E Q q; rw [dataLt_int] at q; exact PyProof.Rows.lt_int q
    | _ => simp [cmpb] at h
  | .str x, db, A, s, a, b, as, bs, ra, rb, h, _, _, _ => by
    cases db with
    | str y => cases ra; cases rb; intro prog w E Q q; rw [dataLt_str] at q; exact PyProof.Rows.lt_str q
    | _ => simp [cmpb] at h
  | .tuple xs, db, A, s, a, b, as, bs, ra, rb, h, pa, pb, hu => by
    cases db with
    | tuple ys =>
      have hc : cmpbs xs ys = true := by simpa [cmpb] using h
      have pa' : PyData.plainAll xs = true := by simpa [PyData.plain] using pa
      have pb' : PyData.plainAll ys = true := by simpa [PyData.plain] using pb
      cases ra with
      | @tuple l o p n _ _ h1 h2 h3 h4 =>
        cases rb with
        | @tuple l' o' q m _ _ k1 k2 k3 k4 =>
          have n1 : p.size = xs.length := by simpa using ReadsAll.length _ _ _ h4
          have n2 : q.size = ys.length := by simpa using ReadsAll.length _ _ _ k4
          rw [dataLt_tuple, show lexLt itemOrd (keyToksAll xs) (keyToksAll ys) = tlt (keyToksAll xs) (keyToksAll ys) from rfl, ← first_c xs ys hc, ← n1, ← n2]
          refine rcTup (e := pairEq xs ys) (r := fun j => dataLt (xs.getD j .none) (ys.getD j .none)) ⟨_, h1, h2, _, h3⟩ ⟨_, k1, k2, _, k3⟩ (room_here hu) ⟨fun j j1 j2 _ => ?_, fun j j1 j2 hp hj => ?_⟩
          · have := eqAt_plainAll xs ys A.in1 s p.toList q.toList _ _ h4 k4 pa' pb' (room_in hu) j (by simpa using j1) (by simpa using j2)
            simpa using this
          · have := rc_cs xs ys A.in1 s p.toList q.toList _ _ h4 k4 hc pa' pb' (room_in hu) j (by simpa using j1) (by simpa using j2) hp hj
            simpa using this
    | _ => simp [cmpb] at h
  | .none, db, _, _, _, _, _, _, _, _, h, _, _, _ => by cases db <;> simp [cmpb] at h
  | .list _, db, _, _, _, _, _, _, _, _, h, _, _, _ => by cases db <;> simp [cmpb] at h
  | .dict _, db, _, _, _, _, _, _, _, _, h, _, _, _ => by cases db <;> simp [cmpb] at h
theorem rc_cs : ∀ (xs ys : List PyData) (A : Around) (s : Shared) (vs ws : List Value) (as bs : List Addr), ReadsAll s.heap vs xs as → ReadsAll s.heap ws ys bs → cmpbs xs ys = true → PyData.plainAll xs = true → PyData.plainAll ys = true →
    A.units + min (PyData.depthAll xs) (PyData.depthAll ys) < cLine → ∀ j (h1 : j < vs.length) (h2 : j < ws.length), (∀ i, i < j → pairEq xs ys i = true) → pairEq xs ys j = false → RcLt A s vs[j] ws[j] (dataLt (xs.getD j .none) (ys.getD j .none))
  | [], _, _, _, _, _, _, _, ra, _, _, _, _, _, j, h1, _, _, _ => by cases ra; exact absurd h1 (Nat.not_lt_zero _)
  | _ :: _, [], _, _, _, _, _, _, _, rb, _, _, _, _, j, _, h2, _, _ => by cases rb; exact absurd h2 (Nat.not_lt_zero _)
  | x :: xs, y :: ys, A, s, _, _, _, _, ra, rb, h, pa, pb, hu, j, h1, h2, hp, hj => by
    obtain ⟨c1, c2⟩ := cmpbs_cons h
    have pa' : x.plain = true ∧ PyData.plainAll xs = true := by simpa [PyData.plainAll] using pa
    have pb' : y.plain = true ∧ PyData.plainAll ys = true := by simpa [PyData.plainAll] using pb
    cases ra with
    | cons r rs =>
      cases rb with
      | cons r' rs' =>
        cases j with
        | zero => exact rc_c x y A s _ _ _ _ r r' c1 pa'.1 pb'.1 (room_head hu)
        | succ j =>
          have e0 : PyData.eqv x y = true := hp 0 (Nat.succ_pos _)
          exact rc_cs xs ys A s _ _ _ _ rs rs' (c2 e0) pa'.2 pb'.2 (room_tail hu) j (Nat.lt_of_succ_lt_succ h1) (Nat.lt_of_succ_lt_succ h2) (fun i hi => hp (i + 1) (Nat.succ_lt_succ hi)) hj
end
end Dl

namespace Dl
open PySem L2 PySem.W PySem.SeqAt PyProof.Rows
noncomputable def ltv (h : Heap) (v u : Value) : Bool := tlt (keyToks (readOf h v)) (keyToks (readOf h u))
theorem swo_ltv (h : Heap) : SrtO.Swo (ltv h) := by
  refine ⟨fun x y q => ?_, fun x y z h1 h2 => ?_⟩
  · cases e : ltv h y x with
    | false => rfl
    | true =>
      have := lex_trans _ _ _ q e
      rw [lex_irrefl] at this; cases this
  · cases e : ltv h z x with
    | false => rfl
    | true =>
      rcases lex_negTrans _ (keyToks (readOf h y)) _ e with q | q
      · rw [show ltv h z y = true from q] at h2; cases h2
      · rw [show ltv h y x = true from q] at h1; cases h1
structure Srt (ds : List PyData) : Prop where
  one : ∀ d, d ∈ ds → d.plain = true ∧ d.depth ≤ 60 ∧ ∃ i r, d = .tuple (.int i :: r)
  two : ∀ d, d ∈ ds → ∀ d', d' ∈ ds → cmpb d d' = true
section
variable {prog : Program} {w : World} {A : Around} {E : Value → Shared → Prop} {s : Shared}
theorem kat_rest {Q : Bool → Shared → Prop} : ∀ (xs ys : List PyData) (vs ws : List Value) (as bs : List Addr) (i : Nat) (fin : Bool), ReadsAll s.heap vs xs as → ReadsAll s.heap ws ys bs → cmpbs xs ys = true → PyData.plainAll xs = true → PyData.plainAll ys = true →
    A.units + min (PyData.depthAll xs) (PyData.depthAll ys) < cLine → 0 < i → fin = decide (xs.length < ys.length) → Q (tlt (keyToksAll xs) (keyToksAll ys)) s → KatLex prog w A true fin Q (vs.zip ws) i s
  | [], [], _, _, _, _, i, fin, ra, rb, _, _, _, _, _, hf, hq => by
    cases ra; cases rb
    refine kat_nil ?_
    rw [show tlt (keyToksAll []) (keyToksAll []) = false from lex_irrefl _] at hq
    rw [hf]; exact hq
  | [], y :: ys, _, _, _, _, i, fin, ra, rb, _, _, _, _, _, hf, hq => by
    cases ra; cases rb
    refine kat_nil ?_
    rw [(tlt_short y ys).1] at hq
    rw [hf]; simpa using hq
  | x :: xs, [], _, _, _, _, i, fin, ra, rb, _, _, _, _, _, hf, hq => by
    cases ra; cases rb
    refine kat_nil ?_
    rw [(tlt_short x xs).2] at hq
    rw [hf]; simpa using hq
  | x :: xs, y :: ys, _, _, _, _, i, fin, ra, rb, h, pa, pb, hu, hi, hf, hq => by
    obtain ⟨c1, c2⟩ := cmpbs_cons h
    have pa' : x.plain = true ∧ PyData.plainAll xs = true := by simpa [PyData.plainAll] using pa
    have pb' : y.plain = true ∧ PyData.plainAll ys = true := by simpa [PyData.plainAll] using pb
    cases ra with
    | cons r rs =>
      cases rb with
      | cons r' rs' =>
        refine kat_cons (eqAt_plain x y A s _ _ _ _ r r' pa'.1 pb'.1 (room_head hu) prog w _ _ ?_)
        refine kat_go (fun e => kat_yes ?_) (fun e => kat_no ?_)
        · rw [tlt_yes c1 e] at hq
          exact kat_rest xs ys _ _ _ _ (i + 1) fin rs rs' (c2 e) pa'.2 pb'.2 (room_tail hu) (Nat.succ_pos _) (by rw [hf, decide_eq_decide]; simp only [List.length_cons]; omega) hq
        · rw [tlt_no c1 e] at hq
          rw [show (true && i == 0) = false from by simp; omega]
          refine kat_one _ _ ?_
          exact rc_c x y A s _ _ _ _ r r' c1 pa'.1 pb'.1 (room_head hu) prog w _ _ hq
theorem cmp_c {h : Heap} {vs : List Value} {ds : List PyData} (hs : ∀ b o, h.get? b = some o → s.heap.get? b = some o) (S : Srt ds) (hr : ∀ v ∈ vs, ∃ d ∈ ds, ∃ as, Reads h v d as) (hu : A.units + 61 < cLine) :
    SrtO.Cmp prog w A s (tuples' true) (fun p => p.1 ∈ vs) (SrtO.lt2 (ltv h)) := by
  intro p q hm hm'
  obtain ⟨d, hd, as, ra⟩ := hr _ hm
  obtain ⟨d', hd', bs, rb⟩ := hr _ hm'
  obtain ⟨p1, z1, i, r, rfl⟩ := S.one d hd
  obtain ⟨p2, z2, j, r', rfl⟩ := S.one d' hd'
  have hc : cmpbs (.int i :: r) (.int j :: r') = true := by simpa [cmpb] using S.two _ hd _ hd'
  have pa : PyData.plainAll (.int i :: r) = true := by simpa [PyData.plain] using p1
  have pb : PyData.plainAll (.int j :: r') = true := by simpa [PyData.plain] using p2
  have hroom : A.units + min (PyData.depthAll (.int i :: r)) (PyData.depthAll (.int j :: r')) < cLine := by
    have : PyData.depthAll (.int i :: r) + 1 ≤ 60 := by simpa [PyData.depth] using z1
    omega
  show wpAny (model prog w) A (keyLt' (tuples' true) p.1 q.1) (fun b s' => s' = s ∧ b = ltv h p.1 q.1) (fun _ _ => False) s
  have hl : ltv h p.1 q.1 = tlt (keyToksAll (.int i :: r)) (keyToksAll (.int j :: r')) := by
    unfold ltv
    rw [readOf_plain p1 ra, readOf_plain p2 rb]
    simp only [keyToks]
  rw [hl]
  have ra' := PyProof.Rows.Reads.keeps hs ra
  have rb' := PyProof.Rows.Reads.keeps hs rb
  generalize p.1 = u at ra'
  generalize q.1 = v at rb'
  cases ra' with
  | @tuple l o xs n _ _ h1 h2 h3 h4 =>
    cases rb' with
    | @tuple l' o' ys m _ _ k1 k2 k3 k4 =>
      have n1 : xs.size = (PyData.int i :: r).length := by simpa using ReadsAll.length _ _ _ h4
      have n2 : ys.size = (PyData.int j :: r').length := by simpa using ReadsAll.length _ _ _ k4
      refine kat_lt h1 h3 k1 k3 ?_
      rw [n1, n2]
      generalize xs.toList = us at h4
      generalize ys.toList = ws at k4
      cases h4 with
      | cons ri rs =>
        cases k4 with
        | cons rj rs' =>
          cases ri with
          | int _ t1 =>
            cases rj with
            | int _ t2 =>
              obtain ⟨c1, c2⟩ := cmpbs_cons hc
              have e0 : PyData.eqv (.int i) (.int j) = (i == j) := by simp [PyData.eqv]
              refine kat_cons (EqAt.int_int i t1 j t2 prog w _ _ ?_)
              refine kat_go (fun e => kat_yes ?_) (fun e => kat_no ?_)
              · have e1 : PyData.eqv (.int i) (.int j) = true := by rw [e0]; simpa using e
                have pa2 : PyData.plainAll r = true := by simpa [PyData.plainAll, PyData.plain] using pa
                have pb2 : PyData.plainAll r' = true := by simpa [PyData.plainAll, PyData.plain] using pb
                rw [tlt_yes c1 e1]
                exact kat_rest r r' _ _ _ _ 1 _ rs rs' (c2 e1) pa2 pb2 (room_tail hroom) (Nat.succ_pos _) (by rw [decide_eq_decide]; simp only [List.length_cons]; omega) ⟨rfl, rfl⟩
              · have e1 : PyData.eqv (.int i) (.int j) = false := by rw [e0]; simpa using e
                rw [tlt_no c1 e1, dataLt_int]
                exact oneLt_int ⟨rfl, rfl⟩
theorem tups_c {h : Heap} : ∀ {vs : List Value}, (∀ v ∈ vs, ∃ i r as, Reads h v (.tuple (.int i :: r)) as) → ∃ fs, KatTups h vs fs ∧ fs.length = vs.length ∧ ∀ f ∈ fs, ∃ i t, f = Value.int i t
  | [], _ => ⟨[], KatTups.nil, rfl, fun f hf => by cases hf⟩
  | v :: vs, hv => by
    obtain ⟨fs, f1, f2, f3⟩ := tups_c (vs := vs) fun u hu => hv u (List.mem_cons_of_mem _ hu)
    obtain ⟨i, r, as, ra⟩ := hv v (List.mem_cons_self ..)
    cases ra with
    | @tuple l o xs n _ _ h1 h2 h3 h4 =>
      cases q : xs.toList with
      | nil => rw [q] at h4; cases h4
      | cons f fr =>
        rw [q] at h4
        cases h4 with
        | cons ri _ =>
          cases ri with
          | int _ t =>
            have hf : xs[0]? = some (.int i t) := by rw [← Array.getElem?_toList, q]; rfl
            refine ⟨_ :: fs, KatTups.cons h1 h2 h3 hf f1, by simp [f2], fun g hg => ?_⟩
            rcases List.mem_cons.mp hg with e | e
            · exact ⟨i, t, e⟩
            · exact f3 g e
theorem sorted_c {l : Addr} {vs : List Value} {ds : List PyData} {Q : Value → Shared → Prop} (hl : s.heap.IsList l vs.toArray) (hz : vs.length ≤ sizeLine) (S : Srt ds) (hr : ∀ v ∈ vs, ∃ d ∈ ds, ∃ as, Reads s.heap v d as) (hu : A.units + 63 < cLine)
    (h : ∀ (h' : Heap) (d : Addr) (out : List Value), SrtO.Srtd (ltv s.heap) out → SrtO.Stb (ltv s.heap) out vs → (∀ b o, s.heap.get? b = some o → h'.get? b = some o) → s.heap.objs.size ≤ d → (∃ n, h'.get? d = some (seqObj "list" out.toArray n)) → Q (.ref d) { s with heap := h' }) :
    wpAny (model prog w) A (call (.builtin "sorted") [.ref l]) Q E s := by
  refine SrtO.sorted_ord (swo_ltv s.heap) hl hz (fun h2 h₁ a ha kk => ?_) fun out hs hb => ?_
  · intro h' keep
    have K : ∀ b o, s.heap.get? b = some o → h'.get? b = some o := fun b o e => keep b o (kk b o e).1 (kk b o e).2
    obtain ⟨fs, f1, f2, f3⟩ := tups_c (h := h') (vs := vs) fun v hv => by
      obtain ⟨d, hd, as, ra⟩ := hr v hv
      obtain ⟨-, -, i, r, rfl⟩ := S.one d hd
      exact ⟨i, r, as, PyProof.Rows.Reads.keeps K ra⟩
    refine ⟨tuples' true, fun Q E hq => ?_, cmp_c (s := { s with heap := h' }) (A := A.in1.in1) K S hr (by show A.units + 2 + 61 < cLine; omega)⟩
    refine kat_kind (T := .type "int") f1 (by omega) (fun f hm => ?_) (by rfl) ?_
    · obtain ⟨x, t, rfl⟩ := f3 f hm
      exact Looks.now
    · rw [show (Value.type "int" != Value.type "tuple") = true from by decide +kernel]
      exact hq
  · exact h _ _ out hs hb (fun b o e => sortedAll_old e) (Nat.le_succ _) (sortedAll_at s.heap vs out.toArray)
end
end Dl

namespace Dl
open PySem L2
inductive Ech {α β : Type} (R : α → β → Prop) : List α → List β → Prop
  | nil : Ech R [] []
  | cons {a : α} {b : β} {as : List α} {bs : List β} : R a b → Ech R as bs → Ech R (a :: as) (b :: bs)
theorem Ech.left {α β : Type} {R : α → β → Prop} {us : List α} {ds : List β} (t : Ech R us ds) : ∀ v ∈ us, ∃ d ∈ ds, R v d := by
  induction t with
  | nil => intro v h; cases h
  | cons q t ih =>
    intro v h
    rcases List.mem_cons.mp h with z | z
    · subst z; exact ⟨_, List.mem_cons_self .., q⟩
    · obtain ⟨d, hd, r⟩ := ih v z; exact ⟨d, List.mem_cons_of_mem _ hd, r⟩
theorem pureDs_iff : ∀ {l : List D}, pureDs l = true ↔ ∀ d ∈ l, pureD d = true
  | [] => by simp [pureDs]
  | d :: l => by rw [pureDs, Bool.and_eq_true, pureDs_iff (l := l)]; simp
theorem rep_perm {K : PySem.W.Frag} {G : GH} {H : Hp} {xs ys : List V} (p : List.Perm xs ys) : ∀ {ds : List D}, RepL K G H ds xs → ∃ es, List.Perm es ds ∧ RepL K G H es ys := by
  induction p with
  | nil => intro ds h; exact ⟨ds, List.Perm.refl _, h⟩
  | cons x p ih =>
    intro ds h
    cases ds with
    | nil => unfold RepL at h; cases h
    | cons d ds =>
      unfold RepL at h
      obtain ⟨x', r, e, h1, h2⟩ := h
      cases e
      obtain ⟨es, pe, re⟩ := ih h2
      exact ⟨d :: es, pe.cons d, repL_cons h1 re⟩
  | swap x y l =>
    intro ds h
    cases ds with
    | nil => unfold RepL at h; cases h
    | cons d ds =>
      unfold RepL at h
      obtain ⟨x', r, e, h1, h2⟩ := h
      cases e
      cases ds with
      | nil => unfold RepL at h2; cases h2
      | cons d2 ds =>
        unfold RepL at h2
        obtain ⟨x', r, e, h3, h4⟩ := h2
        cases e
        exact ⟨d2 :: d :: ds, List.Perm.swap .., repL_cons h3 (repL_cons h1 h4)⟩
  | trans p q ih1 ih2 =>
    intro ds h
    obtain ⟨es, p1, r1⟩ := ih1 h
    obtain ⟨fs, p2, r2⟩ := ih2 r1
    exact ⟨fs, p2.trans p1, r2⟩
theorem reads_of {X : Cx} {pins : List (Addr × Obj)} {σ : L2.St} {H : Hp} {s : Shared} {G : GH} (I : Inv X pins σ H s) (g : GOk X.K G H) : ∀ {ds : List D} {xs : List V} {us : List Value}, pureDs ds = true → RepL X.K G H ds xs → Vals xs us →
    Ech (fun u d => ∃ as, Reads s.heap u (pyD d) as) us ds
  | [], _, us, _, h, r => by
    unfold RepL at h; subst h
    cases r; exact .nil
  | d :: ds, _, us, hp, h, r => by
    unfold RepL at h
    obtain ⟨x, xs, rfl, h1, h2⟩ := h
    have hp' : pureD d = true ∧ pureDs ds = true := by simpa [pureDs] using hp
    cases r with
    | cons r1 r2 =>
      refine .cons ?_ (reads_of I g hp'.2 h2 r2)
      have a := vw_dp g h1 (by rw [vw_pure hp'.1]; exact hp'.1)
      rw [vw_pure hp'.1] at a
      exact Dp.reads I _ _ _ a r1
abbrev dlt (a b : D) : Bool := tlt (PySem.W.keyToks (pyD a)) (PySem.W.keyToks (pyD b))
abbrev Asc (es : List D) : Prop := es.Pairwise fun a b => dlt b a = false
theorem asc_of {h : Heap} : ∀ {us : List Value} {es : List D}, Ech (fun u d => ∃ as, Reads h u (pyD d) as) us es → SrtO.Srtd (ltv h) us → Asc es
  | _, _, .nil, _ => List.Pairwise.nil
  | _, _, .cons (a := u) (as := us) (b := d) (bs := ds) ⟨as, r⟩ t, hs => by
    have hs' := List.pairwise_cons.mp hs
    refine List.pairwise_cons.mpr ⟨fun e he => ?_, asc_of t hs'.2⟩
    have key : ∀ {us : List Value} {ds : List D}, Ech (fun u d => ∃ as, Reads h u (pyD d) as) us ds → e ∈ ds → ∃ v ∈ us, ∃ as, Reads h v (pyD e) as := by
      intro us ds t
      induction t with
      | nil => intro he; cases he
      | cons q t ih =>
        intro he
        rcases List.mem_cons.mp he with z | z
        · subst z; exact ⟨_, List.mem_cons_self .., q⟩
        · obtain ⟨v, hv, w⟩ := ih z; exact ⟨v, List.mem_cons_of_mem _ hv, w⟩
    obtain ⟨v, hv, bs, rv⟩ := key t he
    have := hs'.1 v hv
    unfold ltv at this
    rw [PySem.SeqAt.readOf_plain (plain_py d) r, PySem.SeqAt.readOf_plain (plain_py e) rv] at this
    exact this
structure SrtD (l : List D) : Prop where
  pure : pureDs l = true
  one : ∀ d, d ∈ l → depD d ≤ 60 ∧ ∃ i r, d = .tup (.int i :: r)
  two : ∀ d, d ∈ l → ∀ d', d' ∈ l → cmpb (pyD d) (pyD d') = true
theorem SrtD.srt {l : List D} (h : SrtD l) : Srt (l.map pyD) := by
  refine ⟨fun d hd => ?_, fun d hd d' hd' => ?_⟩
  · obtain ⟨e, he, rfl⟩ := List.mem_map.mp hd
    obtain ⟨h1, i, r, rfl⟩ := h.one e he
    exact ⟨plain_py _, by rw [depth_py]; exact h1, i, pyDs r, by simp only [pyD, pyDs]⟩
  · obtain ⟨e, he, rfl⟩ := List.mem_map.mp hd
    obtain ⟨e', he', rfl⟩ := List.mem_map.mp hd'
    exact h.two e he e' he'
@[simp] def rSortD : DRC := fun ds G Q => arg1 ds fun x => match lsOf G x with
  | some l => SrtD l ∧ ∀ es p, List.Perm es l → Asc es → G p = none → Q (.ref p) (updG G p (.lst es))
  | none => False
theorem c_sortD {X : Cx} (hu : X.A.units + 70 < cLine) : DCall X (.builtin "sorted") rSortD := by
  intro pins s σ H xs us Q I r ⟨G, ds, q, g, rl, h0, k⟩
  obtain ⟨d, rfl, h⟩ := arg1_of h0
  obtain ⟨x, rfl, rx⟩ := repL_1 rl
  cases e : lsOf G d with
  | none => rw [e] at h; exact h.elim
  | some l =>
    rw [e] at h
    obtain ⟨S, h⟩ := h
    obtain ⟨a, ys, rfl, hs, rl2⟩ := ls_at g rx e
    obtain ⟨its, rv, hl, hz⟩ := I.list (SqL.of hs)
    obtain ⟨u, rfl, ru⟩ := vals1 r
    obtain rfl : u = Value.ref a := ru
    have rd := reads_of I g S.pure rl2 rv
    have hrefs : ∀ y ∈ ys, ∃ t, y = V.ref t := by
      have key : ∀ {l : List D} {ys : List V}, (∀ d ∈ l, ∃ i r, d = D.tup (.int i :: r)) → RepL X.K G H l ys → ∀ y ∈ ys, ∃ t, y = V.ref t := by
        intro l
        induction l with
        | nil => intro ys _ h y hy; unfold RepL at h; subst h; cases hy
        | cons d l ih =>
          intro ys hd h y hy
          unfold RepL at h
          obtain ⟨x, r, rfl, h1, h2⟩ := h
          rcases List.mem_cons.mp hy with z | z
          · subst z
            obtain ⟨i, r2, rfl⟩ := hd d (List.mem_cons_self ..)
            unfold RepV at h1
            obtain ⟨t, _, e1, _⟩ := h1
            exact ⟨t, e1⟩
          · exact ih (fun d hd' => hd d (List.mem_cons_of_mem _ hd')) h2 y z
      exact key (fun d hd => (S.one d hd).2) rl2
    obtain ⟨e1, e2⟩ := refs_back rv hrefs
    refine sorted_c (ds := l.map pyD) hl.isList (by rw [← rv.length]; exact hz) S.srt (fun v hv => ?_) (by omega) fun h' d2 out h1 h2 kp hd hn => ?_
    · obtain ⟨d, hd, as, ra⟩ := rd.left v hv
      exact ⟨pyD d, List.mem_map.mpr ⟨d, hd, rfl⟩, as, ra⟩
    · have h3 : ∀ u ∈ out, ∃ a, u = Value.ref a := fun u hu => e2 u (h2.perm.mem_iff.mp hu)
      obtain ⟨n, hn⟩ := hn
      have pv : List.Perm (out.map backV) ys := by rw [e1]; exact h2.perm.map backV
      obtain ⟨es, pe, re⟩ := rep_perm pv.symm rl2
      have pp : pureDs es = true := by
        rw [pureDs_iff]
        intro d hd
        exact pureDs_iff.mp S.pure d (pe.mem_iff.mp hd)
      have ha : Asc es := asc_of (reads_of I g pp re (vals_back h3)) h1
      have hf := I.hok.fresh hd
      obtain ⟨e', g', rv'⟩ := new_lst g hf re
      refine ⟨.ref d2, upd H d2 (.lst (out.map backV)), I.laid (t' := s.toks) kp hd ⟨?_, out, n, vals_back h3, hn⟩, rfl, k _ _ _ _ e' g' rv' (h es d2 pe ha (g.fresh hf))⟩
      rw [pv.length_eq]
      exact hz
end Dl

namespace Dl
open PySem L2 PyProof.Rows
def tLsV (td : TE) : TE := fun σ H Q => td σ H fun x H1 => ∃ (a : Addr) (kvs : List (Key × V)), x = V.ref a ∧ H1 a = some (.dK kvs) ∧ ∀ p, H1 p = none → Q (.ref p) (upd H1 p (.lst (kvs.map (·.2))))
theorem kv_vals : ∀ {kvs : List (Key × V)} {vs : List (Key × Value)}, KV kvs vs → Vals (kvs.map (·.2)) (vs.map (·.2))
  | _, _, .nil => .nil
  | _, _, .cons q t => .cons q.2 (kv_vals t)
section
variable {X : Cx} {o : Expr} {td : TE} {p apos mpos pos : Pos}
theorem pe_lsV (hc : X.calm = true) (hg : Gl X "list") (hm : X.mg "list" = none) (hd : PE X o td) (hbase : attributeBase o "values" X.env (eval o X.env) = eval o X.env := by rfl) (hline : (apos.endLine == mpos.line) = true := by rfl)
    (hse : starEach [Expr.Call (.Attribute o "values" apos) [] [] mpos] X.env = [(false, eval (Expr.Call (.Attribute o "values" apos) [] [] mpos) X.env)] := by rfl) :
    PE X (.Call (.Name "list" p) [.Call (.Attribute o "values" apos) [] [] mpos] [] pos) (tLsV td) := by
  refine ⟨fun pins s σ H Q I h => ?_⟩
  refine wpAny_Call_Name_kw (ld_blt I hg hm (u := .type "list") (by first | rfl | decide +kernel) ?_ (by first | decide +kernel | decide) (by first | decide +kernel | decide))
  rw [hse]
  refine PySem.callWith_type1 (wpAny_Call_method0_late hbase hline (thn (hd.run pins s σ H _ I h) ?_))
  rintro v s1 ⟨x, H1, I1, r1, a, kvs, rfl, ha, q⟩
  obtain rfl : v = Value.ref a := r1
  obtain ⟨hz, hsys, vs, rel, dof⟩ := dk_of I1.hok ha
  obtain ⟨ep, dat⟩ := dof.dictAt
  obtain ⟨ob, es, ho, ex, hdat, hko, hpr, hnd⟩ := id dat
  refine ⟨"dict", "dict.values", F.plainAttrs_dict, F.slot_dict_values, F.type_dict_values, ⟨ob, ho, ex.1⟩, ?_, Calls.callWith_builtin rfl (PySem.evalArgs_none ?_)⟩
  · intro b e
    cases e
    exact ⟨ob, ho, ex.2.1⟩
  refine call_meetsIn F.slot_dict_values ⟨ob, ho, ex.1⟩ F.entry_dict_values (F.args_dict_values_1 _) (meets_dict_values (mixKind X.prog X.w) a hsys) ⟨⟨vs, dof⟩, ?_⟩
  have k1 : ∀ b u, s1.heap.get? b = some u → (s1.heap.push { cls := .type "dict_values", data := .fields #[.ref a] }).get? b = some u := fun b u e => Heap.get?_push_of_some _ e
  have d1 := dat.keep k1
  have hlen : vs.length = kvs.length := (KV.length rel).symm
  refine PySem.W.kdl_call (PySem.W.kdl_values (knd := mixKind X.prog X.w) (r := s1.heap.objs.size) (d := a) (kvs := vs) (ep := ep)) (I.ok.hd hc) ⟨⟨_, Heap.get?_push_size _ rfl, rfl, rfl⟩, d1⟩ (by rw [hlen]; exact hz) ?_
  intro h' tk acc c hk hS hacc
  have hsz : (s1.heap.push { cls := .type "dict_values", data := .fields #[.ref a] }).objs.size = s1.heap.objs.size + 1 := Heap.size_push _ _
  rw [hsz] at hS ⊢
  have eacc : acc.toList = vs.map (·.2) := PySem.W.kdl_vals_eq acc.toList (by simpa using hacc.1) (fun j v e => by
    have := hacc.2
    have hj : acc[j]? = some v := by rw [← Array.getElem?_toList]; exact e
    exact hacc.2 j v hj)
  refine ⟨.ref (s1.heap.objs.size + 1), upd H1 (s1.heap.objs.size + 1) (.lst (kvs.map (·.2))), I1.laid (t' := tk) (fun b u e => hk b u (k1 b u e)) (Nat.le_succ _) ⟨?_, vs.map (·.2), c, kv_vals rel, ?_⟩, rfl, q _ (I1.hok.fresh (Nat.le_succ _))⟩
  · rw [List.length_map]; exact hz
  · rw [← eacc]
    exact hS
end
@[simp] def dLsV (td : DTE) : DTE := fun ρ G Q => td ρ G fun d G1 => match d with
  | .ref a => (match G1 a with
    | some (.dct kvs) => ∀ p, G1 p = none → Q (.ref p) (updG G1 p (.lst (kvs.map (·.2))))
    | _ => False)
  | _ => False
theorem de_lsV {X : Cx} {o : Expr} {td : DTE} {p apos mpos pos : Pos} (hc : X.calm = true) (hg : Gl X "list") (hm : X.mg "list" = none) (hd : DE X o td) (hbase : attributeBase o "values" X.env (eval o X.env) = eval o X.env := by rfl) (hline : (apos.endLine == mpos.line) = true := by rfl)
    (hse : starEach [Expr.Call (.Attribute o "values" apos) [] [] mpos] X.env = [(false, eval (Expr.Call (.Attribute o "values" apos) [] [] mpos) X.env)] := by rfl) :
    DE X (.Call (.Name "list" p) [.Call (.Attribute o "values" apos) [] [] mpos] [] pos) (dLsV td) := by
  refine (pe_lsV hc hg hm hd hbase hline hse).imp fun σ H Q ⟨ρ, G, q, r, h, k⟩ => ?_
  refine ⟨ρ, G, _, r, h, fun v d H1 G1 e1 r1 v1 h1 => ?_⟩
  cases d with
  | ref a =>
    cases rv_ref v1
    dsimp only at h1
    cases hg1 : G1 a with
    | none => rw [hg1] at h1; exact h1.elim
    | some ob =>
      rw [hg1] at h1
      cases ob with
      | dct kvs =>
        obtain ⟨ws, w1, w2, w3⟩ := r1.gok a _ hg1
        refine ⟨a, ws, rfl, w1, fun z hz => ?_⟩
        obtain ⟨e2, r2, v2⟩ := r1.newLst hz w3
        exact k _ _ _ _ (e1.trans e2) r2 v2 (h1 z (r1.gok.fresh hz))
      | lst _ => exact h1.elim
      | raw _ => exact h1.elim
  | _ => exact h1.elim
theorem iLsV {td : DTE} {ρ : DSt} {G : GH} {Q : DK} (h : td ρ G fun d G1 => match d with
  | .ref a => (match G1 a with
    | some (.dct kvs) => ∀ p, G1 p = none → Q (.ref p) (updG G1 p (.lst (kvs.map (·.2))))
    | _ => False)
  | _ => False) : dLsV td ρ G Q := h
theorem sortD_i {l : List D} {G : GH} {Q : DK} (S : SrtD l) (h : ∀ es p, List.Perm es l → Asc es → G p = none → Q (.ref p) (updG G p (.lst es))) : rSortD [.lst l] G Q := ⟨S, h⟩
theorem sortD_r {l : List D} {a : Addr} {G : GH} {Q : DK} (e : G a = some (.lst l)) (S : SrtD l) (h : ∀ es p, List.Perm es l → Asc es → G p = none → Q (.ref p) (updG G p (.lst es))) : rSortD [.ref a] G Q := by
  show (match lsOf G (.ref a) with
    | some l => SrtD l ∧ ∀ es p, List.Perm es l → Asc es → G p = none → Q (.ref p) (updG G p (.lst es))
    | none => False)
  rw [show lsOf G (.ref a) = some l from by simp [lsOf, e]]
  exact ⟨S, h⟩
end Dl

namespace Dl
open PySem L2
theorem dpA_ints {K : PySem.W.Frag} {H : Hp} : ∀ ns : List Int, DpAll K H (ns.map V.int) (ns.map PyData.int)
  | [] => .nil
  | n :: ns => .cons (.int n) (dpA_ints ns)
theorem lay_ints : ∀ ns : List Int, PyData.canLayAll0 (ns.map PyData.int) = true ∧ PyData.depthAll (ns.map PyData.int) = 0
  | [] => ⟨by simp [PyData.canLayAll0], by simp [PyData.depthAll]⟩
  | n :: ns => by
    have := lay_ints ns
    simp [PyData.canLayAll0, PyData.canLay0, PyData.depthAll, PyData.depth, this.1, this.2]
def rNeS : DR2 := fun x y G Q => match x with
  | .scr ns => (match y with
    | .lst l => l = [] ∧ Q (.bl (decide (ns ≠ []))) G
    | _ => False)
  | _ => False
theorem o_neS {X : Cx} (hu : X.A.units + 64 < cLine) : DOp X (compareOp .NotEq) rNeS := by
  intro pins s σ H x y v u Q I rx ry ⟨G, dx, dy, q, g, r1, r2, h, k⟩
  cases dx with
  | scr ns =>
    cases dy with
    | lst l =>
      obtain ⟨rfl, h⟩ := h
      unfold RepV at r1 r2
      obtain ⟨a, rfl, sa⟩ := r1
      obtain ⟨b, xs, rfl, lb, rl⟩ := r2
      unfold RepL at rl
      subst rl
      refine op_neD hu pins s σ H _ _ v u Q I rx ry ⟨.list (ns.map PyData.int), .list [], .lst sa.sq (dpA_ints ns), .lst lb.sq .nil, ?_, ?_, k _ _ H G (Ext.refl G H) g ?_ h⟩
      · have := lay_ints ns
        unfold SeqAt.shaped
        simp [PyData.canLay0, PyData.depth, this.1, this.2]
      · decide +kernel
      · unfold RepV
        congr 1
        cases ns <;> simp [PyData.eqv, PyData.eqvAll]
    | _ => exact h.elim
  | _ => exact h.elim
theorem neS_i {ns : List Int} {G : GH} {Q : DK} (h : Q (.bl (decide (ns ≠ []))) G) : rNeS (.scr ns) (.lst []) G Q := ⟨rfl, h⟩
end Dl

namespace K17
open PySem L2 Dl
def r_tidy (sp_tidy : DSp) : DTS :=
  (dSeq (dIfS (dTst (dOp rEqv (dOp rIx (dVar 0) (dC (.int 0))) (dC (.str "beside"))))
  (dSeq (dPar 1 2 (dCons (dCall sp_tidy (dCons (dOp rIx (dVar 0) (dC (.int 1))) dNil)) (dCons (dCall sp_tidy (dCons (dOp rIx (dVar 0) (dC (.int 2))) dNil)) dNil)))
  (dRet (dIf (dAnd (dTst (dOp rEqv (dVar 1) (dC (.tup [.str "row", .tup []])))) (dTst (dOp rEqv (dVar 2) (dC (.tup [.str "row", .tup []]))))) (dC (.tup [.str "row", .tup []])) (dTup (dCons (dC (.str "beside")) (dCons (dVar 1) (dCons (dVar 2) dNil)))))))
  dNext)
  (dSeq (dIfS (dTst (dOp rNev (dOp rIx (dVar 0) (dC (.int 0))) (dC (.str "row"))))
  (dRet (dVar 0))
  dNext)
  (dSeq (dAsg (dLst dNil) (gNm 3))
  (dSeq (dFor (iSq (dOp rIx (dVar 0) (dC (.int 1)))) (gNm 4)
  (dSeq (dAsg (dCall sp_tidy (dCons (dVar 4) dNil)) (gNm 5))
  (dDrop (dMt mExtend (dVar 3) (dCons (dIf (dTst (dOp rEqv (dOp rIx (dVar 5) (dC (.int 0))) (dC (.str "row")))) (dOp rIx (dVar 5) (dC (.int 1))) (dFrz (dLst (dCons (dVar 5) dNil)))) dNil)))))
  (dRet (dIf (dTst (dOp rEqv (dCB rLen (dCons (dVar 3) dNil)) (dC (.int 1)))) (dOp rIx (dVar 3) (dC (.int 0))) (dTup (dCons (dC (.str "row")) (dCons (dCB rTupC (dCons (dVar 3) dNil)) dNil)))))))))

def r_ticks_left : DTS :=
  (dRet (dIf (dTst (dOp rEqv (dVar 0) (dC (.int 0)))) (dC (.tup [.str "row", .tup []])) (dTup (dCons (dC (.str "tick")) (dCons (dVar 0) dNil)))))

def r_some_steps (sp_ticks_left : DSp) : DTS :=
  (dSeq (dIfS (dTru (dVar 2))
  (dRet (dFrz (dLc (iRg2 (dCons (dVar 0) (dCons (dOp rAdd (dVar 1) (dC (.int 1))) dNil))) (.one 3) dYes (dTup (dCons (dTup (dCons (dC (.str "many")) (dCons (dVar 3) dNil))) (dCons (dCall sp_ticks_left (dCons (dVar 3) dNil)) dNil))) [3])))
  dNext)
  (dSeq (dAsg (dIf (dTst (dOp rGt (dVar 1) (dC (.int 0)))) (dFrz (dLst (dCons (dTup (dCons (dC (.str "tick")) (dCons (dTup (dCons (dC (.str "some")) (dCons (dCB rMax2 (dCons (dC (.int 0)) (dCons (dOp rSub (dVar 0) (dC (.int 1))) dNil))) (dCons (dOp rSub (dVar 1) (dC (.int 1))) (dCons (dC (.bl false)) dNil))))) dNil))) dNil))) (dFrz (dLst dNil))) (gNm 4))
  (dRet (dFrz (dOp rAdd (dVar 4) (dIf (dTst (dOp rEqv (dVar 0) (dC (.int 0)))) (dFrz (dLst (dCons (dTup (dCons (dC (.str "end")) (dCons (dC (.tup [.str "row", .tup []])) dNil))) dNil))) (dFrz (dLst dNil))))))))

def r_loop_steps (sp_tidy : DSp) : DTS :=
  (dSeq (dIfS (dTru (dVar 2))
  (dRet (dFrz (dLc (iRg2 (dCons (dVar 0) (dCons (dOp rAdd (dVar 1) (dC (.int 1))) dNil))) (.one 4) dYes (dTup (dCons (dTup (dCons (dC (.str "many")) (dCons (dVar 4) dNil))) (dCons (dCall sp_tidy (dCons (dTup (dCons (dC (.str "row")) (dCons (dOp rMul (dTup (dCons (dVar 3) dNil)) (dVar 4)) dNil))) dNil)) dNil))) [4])))
  dNext)
  (dSeq (dAsg (dTup (dCons (dC (.str "loop")) (dCons (dCB rMax2 (dCons (dC (.int 0)) (dCons (dOp rSub (dVar 0) (dC (.int 1))) dNil))) (dCons (dOp rSub (dVar 1) (dC (.int 1))) (dCons (dC (.bl false)) (dCons (dVar 3) dNil)))))) (gNm 5))
  (dSeq (dAsg (dIf (dTst (dOp rGt (dVar 1) (dC (.int 0)))) (dFrz (dLst (dCons (dTup (dCons (dC (.str "more")) (dCons (dCall sp_tidy (dCons (dTup (dCons (dC (.str "row")) (dCons (dTup (dCons (dVar 3) (dCons (dVar 5) dNil))) dNil))) dNil)) dNil))) dNil))) (dFrz (dLst dNil))) (gNm 6))
  (dRet (dFrz (dOp rAdd (dVar 6) (dIf (dTst (dOp rEqv (dVar 0) (dC (.int 0)))) (dFrz (dLst (dCons (dTup (dCons (dC (.str "end")) (dCons (dC (.tup [.str "row", .tup []])) dNil))) dNil))) (dFrz (dLst dNil)))))))))

def r_beside_steps (sp_steps_of : DSp) (sp_tidy : DSp) : DTS :=
  (dSeq (dAsg (dFrz (dLc (iSq (dCall sp_steps_of (dCons (dVar 0) dNil))) (.tup [3, 4]) dYes (dTup (dCons (dTup (dCons (dC (.str "left")) (dCons (dVar 3) dNil))) (dCons (dCall sp_tidy (dCons (dTup (dCons (dC (.str "beside")) (dCons (dVar 4) (dCons (dVar 1) dNil)))) dNil)) dNil))) [3, 4])) (gNm 2))
  (dRet (dFrz (dOp rAdd (dVar 2) (dFrz (dLc (iSq (dCall sp_steps_of (dCons (dVar 1) dNil))) (.tup [3, 4]) dYes (dTup (dCons (dTup (dCons (dC (.str "right")) (dCons (dVar 3) dNil))) (dCons (dCall sp_tidy (dCons (dTup (dCons (dC (.str "beside")) (dCons (dVar 0) (dCons (dVar 4) dNil)))) dNil)) dNil))) [3, 4]))))))

def r_steps_of (sp_tidy : DSp) (sp_steps_of : DSp) (sp_beside_steps : DSp) (sp_loop_steps : DSp) (sp_some_steps : DSp) (sp_ticks_left : DSp) : DTS :=
  (dMatch (dOp rIx (dVar 0) (dC (.int 0))) [(some "tick", (dRet (dFrz (dLst (dCons (dTup (dCons (dC (.str "tick")) (dCons (dCall sp_ticks_left (dCons (dOp rSub (dOp rIx (dVar 0) (dC (.int 1))) (dC (.int 1))) dNil)) dNil))) dNil))))),
  (some "some", (dRet (dCall sp_some_steps (dCons (dOp rIx (dVar 0) (dC (.int 1))) (dCons (dOp rIx (dVar 0) (dC (.int 2))) (dCons (dOp rIx (dVar 0) (dC (.int 3))) dNil)))))),
  (some "loop", (dRet (dCall sp_loop_steps (dCons (dOp rIx (dVar 0) (dC (.int 1))) (dCons (dOp rIx (dVar 0) (dC (.int 2))) (dCons (dOp rIx (dVar 0) (dC (.int 3))) (dCons (dOp rIx (dVar 0) (dC (.int 4))) dNil))))))),
  (some "either", (dRet (dFrz (dLc (iEnT (dOp rIx (dVar 0) (dC (.int 1)))) (.tup [1, 2]) dYes (dTup (dCons (dTup (dCons (dC (.str "way")) (dCons (dVar 1) dNil))) (dCons (dCall sp_tidy (dCons (dVar 2) dNil)) dNil))) [1, 2])))),
  (some "beside", (dRet (dCall sp_beside_steps (dCons (dOp rIx (dVar 0) (dC (.int 1))) (dCons (dOp rIx (dVar 0) (dC (.int 2))) dNil))))),
  (none, (dSeq (dAsg (dSl (dOp rIx (dVar 0) (dC (.int 1))) (dP (dC (.int 1))) dNoP) (gNm 3))
  (dSeq (dAsg (dIf (dTst (dOp rNev (dOp rIx (dVar 0) (dC (.int 1))) (dTup dNil))) (dCall sp_steps_of (dCons (dOp rIx (dOp rIx (dVar 0) (dC (.int 1))) (dC (.int 0))) dNil)) (dFrz (dLst dNil))) (gNm 4))
  (dRet (dFrz (dLc (iSq (dVar 4)) (.tup [5, 6]) dYes (dTup (dCons (dVar 5) (dCons (dCall sp_tidy (dCons (dTup (dCons (dC (.str "row")) (dCons (dTup (dCons (dVar 6) (dStar (dVar 3) dNil))) dNil))) dNil)) dNil))) [5, 6]))))))])

def r_law_feed : DTS :=
  (dRet (dDisp [((dC (.str "cells")), (dFrz (dCB rLstC (dCons (dFrz (dSl (dVar 0) dNoP (dP (dC (.int 63))))) dNil)))), ((dC (.str "at")), (dC (.int 0))), ((dC (.str "left")), (dC (.int 0))), ((dC (.str "turn")), (dC (.int 0)))]))

def r_law_draw : DTS :=
  (dSeq (dAsg (dOp rAdd (dDGet (dVar 0) (dC (.str "turn"))) (dC (.int 1))) (gSb (dVar 0) (dC (.str "turn")) sDct))
  (dSeq (dIfS (dTst (dOp rEqv (dDGet (dVar 0) (dC (.str "cells"))) (dFrz (dLst dNil))))
  (dRet (dOp rMod (dCB rIntC (dCons (dOp rFdiv (dOp rMul (dDGet (dVar 0) (dC (.str "turn"))) (dC (.int 7))) (dC (.int 4))) dNil)) (dVar 1)))
  dNext)
  (dSeq (dIfS (dTst (dOp rGt (dDGet (dVar 0) (dC (.str "left"))) (dC (.int 0))))
  (dSeq (dAsg (dOp rMod (dCB rIntC (dCons (dDGet (dVar 0) (dC (.str "left"))) dNil)) (dVar 1)) (gNm 2))
  (dSeq (dAsg (dOp rFdiv (dDGet (dVar 0) (dC (.str "left"))) (dVar 1)) (gSb (dVar 0) (dC (.str "left")) sDct))
  (dRet (dVar 2))))
  dNext)
  (dSeq (dAsg (dDGet (dVar 0) (dC (.str "at"))) (gNm 3))
  (dSeq (dAsg (dOp rAdd (dVar 3) (dC (.int 1))) (gSb (dVar 0) (dC (.str "at")) sDct))
  (dSeq (dAsg (dOp rIx (dDGet (dVar 0) (dC (.str "cells"))) (dOp rMod (dCB rIntC (dCons (dVar 3) dNil)) (dCB rLen (dCons (dDGet (dVar 0) (dC (.str "cells"))) dNil)))) (gNm 4))
  (dSeq (dIfS (dAnd (dTst (dOp rGe (dVar 4) (dOp rPow (dC (.int 10)) (dC (.int 18))))) (dTst (dOp rLt (dVar 3) (dCB rLen (dCons (dDGet (dVar 0) (dC (.str "cells"))) dNil)))))
  (dSeq (dAsg (dOp rFdiv (dVar 4) (dVar 1)) (gSb (dVar 0) (dC (.str "left")) sDct))
  (dRet (dOp rMod (dCB rIntC (dCons (dVar 4) dNil)) (dVar 1))))
  dNext)
  (dSeq (dAsg (dOp rMod (dCB rIntC (dCons (dOp rAdd (dOp rAdd (dOp rMod (dCB rIntC (dCons (dVar 4) dNil)) (dC (.int 1000003097))) (dOp rMul (dC (.int 97381)) (dDGet (dVar 0) (dC (.str "turn"))))) (dC (.int 811))) dNil)) (dC (.int 2147483563))) (gNm 5))
  (dSeq (dAsg (dOp rMod (dCB rIntC (dCons (dOp rAdd (dOp rAdd (dOp rPow (dVar 5) (dC (.int 3))) (dOp rMul (dC (.int 7401211)) (dDGet (dVar 0) (dC (.str "turn"))))) (dC (.int 443))) dNil)) (dC (.int 2147483489))) (gNm 5))
  (dRet (dOp rMod (dCB rIntC (dCons (dOp rFdiv (dOp rMod (dCB rIntC (dCons (dOp rAdd (dOp rPow (dVar 5) (dC (.int 3))) (dOp rMul (dC (.int 397)) (dVar 5))) dNil)) (dC (.int 2147483399))) (dC (.int 32))) dNil)) (dVar 1))))))))))))

def r_law_tidy (sp_law_tidy : DSp) : DTS :=
  (dSeq (dIfS (dTst (dOp rEqv (dOp rIx (dVar 0) (dC (.int 0))) (dC (.str "beside"))))
  (dSeq (dPar 1 2 (dCons (dCall sp_law_tidy (dCons (dOp rIx (dVar 0) (dC (.int 1))) dNil)) (dCons (dCall sp_law_tidy (dCons (dOp rIx (dVar 0) (dC (.int 2))) dNil)) dNil)))
  (dRet (dIf (dAnd (dTst (dOp rEqv (dVar 1) (dTup (dCons (dC (.str "row")) (dCons (dTup dNil) dNil))))) (dTst (dOp rEqv (dVar 2) (dTup (dCons (dC (.str "row")) (dCons (dTup dNil) dNil)))))) (dTup (dCons (dC (.str "row")) (dCons (dTup dNil) dNil))) (dTup (dCons (dC (.str "beside")) (dCons (dVar 1) (dCons (dVar 2) dNil)))))))
  dNext)
  (dSeq (dIfS (dTst (dOp rNev (dOp rIx (dVar 0) (dC (.int 0))) (dC (.str "row"))))
  (dRet (dVar 0))
  dNext)
  (dSeq (dAsg (dLst dNil) (gNm 3))
  (dSeq (dFor (iSq (dOp rIx (dVar 0) (dC (.int 1)))) (gNm 4)
  (dSeq (dAsg (dCall sp_law_tidy (dCons (dVar 4) dNil)) (gNm 5))
  (dDrop (dMt mExtend (dVar 3) (dCons (dIf (dTst (dOp rEqv (dOp rIx (dVar 5) (dC (.int 0))) (dC (.str "row")))) (dFrz (dCB rLstC (dCons (dOp rIx (dVar 5) (dC (.int 1))) dNil))) (dFrz (dLst (dCons (dVar 5) dNil)))) dNil)))))
  (dRet (dIf (dTst (dOp rEqv (dCB rLen (dCons (dVar 3) dNil)) (dC (.int 1)))) (dOp rIx (dVar 3) (dC (.int 0))) (dTup (dCons (dC (.str "row")) (dCons (dCB rTupC (dCons (dVar 3) dNil)) dNil)))))))))

def r_law_next (sp_law_next : DSp) : DTS :=
  (dSeq (dAsg (dOp rIx (dVar 0) (dC (.int 0))) (gNm 1))
  (dSeq (dIfS (dTst (dOp rEqv (dVar 1) (dC (.str "tick"))))
  (dRet (dFrz (dLst (dCons (dC (.str "tick")) dNil))))
  dNext)
  (dSeq (dIfS (dTst (dOp rEqv (dVar 1) (dC (.str "row"))))
  (dRet (dIf (dTst (dOp rNev (dOp rIx (dVar 0) (dC (.int 1))) (dTup dNil))) (dCall sp_law_next (dCons (dOp rIx (dOp rIx (dVar 0) (dC (.int 1))) (dC (.int 0))) dNil)) (dFrz (dLst dNil))))
  dNext)
  (dSeq (dIfS (dAnd (dTst (dOp (rInn id) (dVar 1) (dTup (dCons (dC (.str "some")) (dCons (dC (.str "loop")) dNil))))) (dTru (dOp rIx (dVar 0) (dC (.int 3)))))
  (dRet (dFrz (dLc (iRg2 (dCons (dOp rIx (dVar 0) (dC (.int 1))) (dCons (dOp rAdd (dOp rIx (dVar 0) (dC (.int 2))) (dC (.int 1))) dNil))) (.one 2) dYes (dTup (dCons (dC (.str "many")) (dCons (dVar 2) dNil))) [2])))
  dNext)
  (dSeq (dIfS (dTst (dOp (rInn id) (dVar 1) (dTup (dCons (dC (.str "some")) (dCons (dC (.str "loop")) dNil)))))
  (dSeq (dAsg (dFrz (dOp rMul (dFrz (dLst (dCons (dDGet (dDisp [((dC (.str "some")), (dC (.str "tick"))), ((dC (.str "loop")), (dC (.str "more")))]) (dVar 1)) dNil))) (dCB rIntC (dCons (dOp rGt (dOp rIx (dVar 0) (dC (.int 2))) (dC (.int 0))) dNil)))) (gNm 3))
  (dRet (dFrz (dOp rAdd (dVar 3) (dFrz (dOp rMul (dFrz (dLst (dCons (dC (.str "end")) dNil))) (dCB rIntC (dCons (dOp rEqv (dOp rIx (dVar 0) (dC (.int 1))) (dC (.int 0))) dNil))))))))
  dNext)
  (dSeq (dIfS (dTst (dOp rEqv (dVar 1) (dC (.str "either"))))
  (dRet (dFrz (dLc (iRg1 (dCons (dCB rLen (dCons (dOp rIx (dVar 0) (dC (.int 1))) dNil)) dNil)) (.one 4) dYes (dTup (dCons (dC (.str "way")) (dCons (dVar 4) dNil))) [4])))
  dNext)
  (dRet (dFrz (dOp rAdd (dFrz (dLc (iSq (dCall sp_law_next (dCons (dOp rIx (dVar 0) (dC (.int 1))) dNil))) (.one 5) dYes (dTup (dCons (dC (.str "left")) (dCons (dVar 5) dNil))) [5])) (dFrz (dLc (iSq (dCall sp_law_next (dCons (dOp rIx (dVar 0) (dC (.int 2))) dNil))) (.one 5) dYes (dTup (dCons (dC (.str "right")) (dCons (dVar 5) dNil))) [5])))))))))))

def r_law_behind (sp_law_behind : DSp) : DTS :=
  (dSeq (dAsg (dOp rIx (dVar 0) (dC (.int 0))) (gNm 2))
  (dSeq (dIfS (dTst (dOp rEqv (dVar 2) (dC (.str "row"))))
  (dRet (dTup (dCons (dC (.str "row")) (dCons (dOp rAdd (dTup (dCons (dCall sp_law_behind (dCons (dOp rIx (dOp rIx (dVar 0) (dC (.int 1))) (dC (.int 0))) (dCons (dVar 1) dNil))) dNil)) (dSl (dOp rIx (dVar 0) (dC (.int 1))) (dP (dC (.int 1))) dNoP)) dNil))))
  dNext)
  (dSeq (dIfS (dTst (dOp rEqv (dVar 2) (dC (.str "beside"))))
  (dSeq (dIfS (dTst (dOp rEqv (dOp rIx (dVar 1) (dC (.int 0))) (dC (.str "left"))))
  (dRet (dTup (dCons (dC (.str "beside")) (dCons (dCall sp_law_behind (dCons (dOp rIx (dVar 0) (dC (.int 1))) (dCons (dOp rIx (dVar 1) (dC (.int 1))) dNil))) (dCons (dOp rIx (dVar 0) (dC (.int 2))) dNil)))))
  dNext)
  (dRet (dTup (dCons (dC (.str "beside")) (dCons (dOp rIx (dVar 0) (dC (.int 1))) (dCons (dCall sp_law_behind (dCons (dOp rIx (dVar 0) (dC (.int 2))) (dCons (dOp rIx (dVar 1) (dC (.int 1))) dNil))) dNil))))))
  dNext)
  (dSeq (dIfS (dTst (dOp rEqv (dVar 2) (dC (.str "either"))))
  (dRet (dOp rIx (dOp rIx (dVar 0) (dC (.int 1))) (dOp rIx (dVar 1) (dC (.int 1)))))
  dNext)
  (dSeq (dIfS (dTst (dOp rEqv (dVar 1) (dC (.str "end"))))
  (dRet (dTup (dCons (dC (.str "row")) (dCons (dTup dNil) dNil))))
  dNext)
  (dSeq (dIfS (dOr (dTst (dOp rEqv (dVar 2) (dC (.str "tick")))) (dAnd (dTst (dOp rEqv (dVar 2) (dC (.str "some")))) (dTru (dOp rIx (dVar 0) (dC (.int 3))))))
  (dSeq (dAsg (dIf (dTst (dOp rEqv (dVar 2) (dC (.str "tick")))) (dOp rSub (dOp rIx (dVar 0) (dC (.int 1))) (dC (.int 1))) (dOp rIx (dVar 1) (dC (.int 1)))) (gNm 3))
  (dRet (dIf (dTst (dOp rGt (dVar 3) (dC (.int 0)))) (dTup (dCons (dC (.str "tick")) (dCons (dVar 3) dNil))) (dTup (dCons (dC (.str "row")) (dCons (dTup dNil) dNil))))))
  dNext)
  (dSeq (dIfS (dTst (dOp rEqv (dVar 2) (dC (.str "some"))))
  (dRet (dTup (dCons (dC (.str "some")) (dCons (dCB rMax2 (dCons (dC (.int 0)) (dCons (dOp rSub (dOp rIx (dVar 0) (dC (.int 1))) (dC (.int 1))) dNil))) (dCons (dOp rSub (dOp rIx (dVar 0) (dC (.int 2))) (dC (.int 1))) (dCons (dC (.bl false)) dNil))))))
  dNext)
  (dSeq (dIfS (dTru (dOp rIx (dVar 0) (dC (.int 3))))
  (dRet (dTup (dCons (dC (.str "row")) (dCons (dOp rMul (dTup (dCons (dOp rIx (dVar 0) (dC (.int 4))) dNil)) (dOp rIx (dVar 1) (dC (.int 1)))) dNil))))
  dNext)
  (dRet (dTup (dCons (dC (.str "row")) (dCons (dTup (dCons (dOp rIx (dVar 0) (dC (.int 4))) (dCons (dTup (dCons (dC (.str "loop")) (dCons (dCB rMax2 (dCons (dC (.int 0)) (dCons (dOp rSub (dOp rIx (dVar 0) (dC (.int 1))) (dC (.int 1))) dNil))) (dCons (dOp rSub (dOp rIx (dVar 0) (dC (.int 2))) (dC (.int 1))) (dCons (dC (.bl false)) (dCons (dOp rIx (dVar 0) (dC (.int 4))) dNil)))))) dNil))) dNil))))))))))))

def r_law_after (sp_law_tidy : DSp) (sp_law_behind : DSp) : DTS :=
  (dRet (dCall sp_law_tidy (dCons (dCall sp_law_behind (dCons (dVar 0) (dCons (dVar 1) dNil))) dNil)))

def r_law_end (sp_law_end : DSp) : DTS :=
  (dSeq (dAsg (dOp rIx (dVar 0) (dC (.int 0))) (gNm 2))
  (dSeq (dIfS (dTst (dOp rEqv (dVar 2) (dC (.str "tick"))))
  (dRet (dOp rIx (dVar 0) (dC (.int 1))))
  dNext)
  (dSeq (dIfS (dTst (dOp (rInn id) (dVar 2) (dTup (dCons (dC (.str "some")) (dCons (dC (.str "loop")) dNil)))))
  (dSeq (dAsg (dIf (dTru (dVar 1)) (dOp rIx (dVar 0) (dC (.int 1))) (dOp rIx (dVar 0) (dC (.int 2)))) (gNm 3))
  (dRet (dIf (dTst (dOp rEqv (dVar 2) (dC (.str "some")))) (dVar 3) (dOp rMul (dVar 3) (dCall sp_law_end (dCons (dOp rIx (dVar 0) (dC (.int 4))) (dCons (dVar 1) dNil)))))))
  dNext)
  (dSeq (dIfS (dTst (dOp rEqv (dVar 2) (dC (.str "beside"))))
  (dRet (dOp rAdd (dCall sp_law_end (dCons (dOp rIx (dVar 0) (dC (.int 1))) (dCons (dVar 1) dNil))) (dCall sp_law_end (dCons (dOp rIx (dVar 0) (dC (.int 2))) (dCons (dVar 1) dNil)))))
  dNext)
  (dSeq (dAsg (dFrz (dLc (iSq (dOp rIx (dVar 0) (dC (.int 1)))) (.one 5) dYes (dCall sp_law_end (dCons (dVar 5) (dCons (dVar 1) dNil))) [5])) (gNm 4))
  (dSeq (dIfS (dTst (dOp rEqv (dVar 2) (dC (.str "row"))))
  (dRet (dCB rSumC (dCons (dVar 4) dNil)))
  dNext)
  (dRet (dIf (dTru (dVar 1)) (dCB rMinC (dCons (dVar 4) dNil)) (dCB rMaxC (dCons (dVar 4) dNil))))))))))

def r_law_rounds : DTS :=
  (dSeq (dAsg (dFrz (dLc (iSq (dTup (dCons (dC (.bl false)) (dCons (dC (.bl true)) dNil)))) (.one 1) dYes (dTup (dCons (dC (.str "row")) (dCons (dTup (dCons (dTup (dCons (dC (.str "tick")) (dCons (dC (.int 2)) dNil))) (dCons (dTup (dCons (dC (.str "loop")) (dCons (dC (.int 1)) (dCons (dC (.int 3)) (dCons (dVar 1) (dCons (dTup (dCons (dC (.str "tick")) (dCons (dC (.int 2)) dNil))) dNil)))))) dNil))) dNil))) [1])) (gNm 0))
  (dRet (dTup (dCons (dOp rIx (dVar 0) (dC (.int 0))) (dCons (dOp rIx (dVar 0) (dC (.int 1))) dNil)))))

def r_law_job (sp_law_draw : DSp) (sp_law_job : DSp) : DTS :=
  (dSeq (dAsg (dIf (dAnd (dTst (dOp rGt (dVar 1) (dC (.int 0)))) (dTst (dOp rGt (dOp rIx (dVar 2) (dC (.int 0))) (dC (.int 1))))) (dCall sp_law_draw (dCons (dVar 0) (dCons (dC (.int 9)) dNil))) (dCall sp_law_draw (dCons (dVar 0) (dCons (dC (.int 3)) dNil)))) (gNm 3))
  (dSeq (dPar 4 5 (dCons (dCall sp_law_draw (dCons (dVar 0) (dCons (dC (.int 2)) dNil))) (dCons (dC (.int 1)) dNil)))
  (dSeq (dIfS (dTst (dOp rEqv (dVar 3) (dC (.int 0))))
  (dRet (dTup (dCons (dC (.str "tick")) (dCons (dOp rAdd (dC (.int 1)) (dCall sp_law_draw (dCons (dVar 0) (dCons (dC (.int 3)) dNil)))) dNil))))
  dNext)
  (dSeq (dIfS (dTst (dOp rLt (dVar 3) (dC (.int 3))))
  (dRet (dTup (dCons (dC (.str "some")) (dCons (dVar 4) (dCons (dOp rAdd (dVar 4) (dCall sp_law_draw (dCons (dVar 0) (dCons (dC (.int 3)) dNil)))) (dCons (dOp rEqv (dVar 3) (dC (.int 1))) dNil))))))
  dNext)
  (dSeq (dIfS (dTst (dOp rLt (dVar 3) (dC (.int 5))))
  (dAsg (dCB rMin2 (dCons (dCall sp_law_draw (dCons (dVar 0) (dCons (dC (.int 4)) dNil))) (dCons (dOp rIx (dVar 2) (dC (.int 0))) dNil))) (gNm 5))
  (dIfS (dTst (dOp rGt (dVar 3) (dC (.int 6))))
  (dAsg (dIf (dOr (dTst (dOp rEqv (dVar 3) (dC (.int 7)))) (dNot (dTru (dOp rIx (dVar 2) (dC (.int 1)))))) (dOp rAdd (dC (.int 1)) (dCall sp_law_draw (dCons (dVar 0) (dCons (dC (.int 2)) dNil)))) (dC (.int 2))) (gNm 5))
  dNext))
  (dSeq (dAsg (dAndV (dOp rEqv (dVar 3) (dC (.int 8))) (dOp rIx (dVar 2) (dC (.int 1)))) (gNm 6))
  (dSeq (dAsg (dTup (dCons (dOp rSub (dOp rIx (dVar 2) (dC (.int 0))) (dVar 5)) (dCons (dAndV (dOp rIx (dVar 2) (dC (.int 1))) (dNotV (dVar 6))) dNil))) (gTp 2 (gsCons (gSb (dVar 2) (dC (.int 0)) sLst) (gsCons (gSb (dVar 2) (dC (.int 1)) sLst) gsNil))))
  (dSeq (dAsg (dFrz (dLc (iRg1 (dCons (dVar 5) dNil)) (.one 8) dYes (dCall sp_law_job (dCons (dVar 0) (dCons (dOp rSub (dVar 1) (dC (.int 1))) (dCons (dVar 2) dNil)))) [8])) (gNm 7))
  (dSeq (dIfS (dTst (dOp (rInn id) (dVar 3) (dTup (dCons (dC (.int 5)) (dCons (dC (.int 6)) dNil)))))
  (dRet (dTup (dCons (dC (.str "loop")) (dCons (dVar 4) (dCons (dOp rAdd (dVar 4) (dCall sp_law_draw (dCons (dVar 0) (dCons (dC (.int 3)) dNil)))) (dCons (dOp rEqv (dVar 3) (dC (.int 5))) (dCons (dOp rIx (dVar 7) (dC (.int 0))) dNil)))))))
  dNext)
  (dSeq (dIfS (dTru (dVar 6))
  (dRet (dTup (dCons (dC (.str "beside")) (dCons (dOp rIx (dVar 7) (dC (.int 0))) (dCons (dOp rIx (dVar 7) (dC (.int 1))) dNil)))))
  dNext)
  (dRet (dTup (dCons (dIf (dTst (dOp rLt (dVar 3) (dC (.int 5)))) (dC (.str "row")) (dC (.str "either"))) (dCons (dCB rTupC (dCons (dVar 7) dNil)) dNil))))))))))))))

def r_law_sides : DTS :=
  (dRet (dTup (dCons (dC (.str "beside")) (dCons (dTup (dCons (dC (.str "tick")) (dCons (dC (.int 1)) dNil))) (dCons (dTup (dCons (dC (.str "some")) (dCons (dC (.int 0)) (dCons (dC (.int 1)) (dCons (dC (.bl false)) dNil))))) dNil)))))

def r_law_great : DTS :=
  (dSeq (dAsg (dTup (dCons (dC (.str "row")) (dCons (dTup (dCons (dTup (dCons (dC (.str "tick")) (dCons (dC (.int 2)) dNil))) (dCons (dTup (dCons (dC (.str "some")) (dCons (dC (.int 0)) (dCons (dC (.int 2)) (dCons (dC (.bl false)) dNil))))) dNil))) dNil))) (gNm 0))
  (dSeq (dAsg (dTup (dCons (dC (.str "row")) (dCons (dTup (dCons (dTup (dCons (dC (.str "loop")) (dCons (dC (.int 1)) (dCons (dC (.int 3)) (dCons (dC (.bl false)) (dCons (dVar 0) dNil)))))) (dCons (dTup (dCons (dC (.str "either")) (dCons (dTup (dCons (dTup (dCons (dC (.str "tick")) (dCons (dC (.int 5)) dNil))) (dCons (dTup (dCons (dC (.str "some")) (dCons (dC (.int 0)) (dCons (dC (.int 2)) (dCons (dC (.bl true)) dNil))))) dNil))) dNil))) dNil))) dNil))) (gNm 1))
  (dSeq (dAsg (dTup (dCons (dC (.str "row")) (dCons (dTup (dCons (dTup (dCons (dC (.str "tick")) (dCons (dC (.int 5)) dNil))) (dCons (dTup (dCons (dC (.str "beside")) (dCons (dTup (dCons (dC (.str "some")) (dCons (dC (.int 1)) (dCons (dC (.int 3)) (dCons (dC (.bl true)) dNil))))) (dCons (dTup (dCons (dC (.str "loop")) (dCons (dC (.int 0)) (dCons (dC (.int 3)) (dCons (dC (.bl false)) (dCons (dTup (dCons (dC (.str "tick")) (dCons (dC (.int 2)) dNil))) dNil)))))) dNil)))) dNil))) dNil))) (gNm 2))
  (dRet (dTup (dCons (dVar 1) (dCons (dVar 2) (dCons (dTup (dCons (dC (.str "row")) (dCons (dTup (dCons (dTup (dCons (dC (.str "tick")) (dCons (dC (.int 12)) dNil))) (dCons (dTup (dCons (dC (.str "loop")) (dCons (dC (.int 3)) (dCons (dC (.int 12)) (dCons (dC (.bl false)) (dCons (dTup (dCons (dC (.str "tick")) (dCons (dC (.int 4)) dNil))) dNil)))))) dNil))) dNil))) dNil))))))))

end K17

namespace K17
open PySem L2 Dl 
local macro_rules | `(tactic| walk_at "ds") => `(tactic| repeat' with_reducible first
  | refine iSeq ?_ | refine iNext ?_ | refine iIfS ?_ | refine iRet ?_ | refine iRetN ?_ | refine iDrop ?_ | refine iAsg ?_ | refine iPar ?_ | refine iGNm ?_
  | refine iGTp (by with_unfolding_all rfl) ?_ | refine iGsCons ?_ | refine iGsNil ?_ | refine iGSb ?_ | refine iVar (by with_unfolding_all rfl) ?_ | refine iC ?_ | refine iNil ?_ | refine iCons ?_
  | refine iTup ?_ | refine lenOk (by with_unfolding_all rfl) ?_ | refine iFrz ?_ | refine iLst ?_ | refine frzEnd ?_ | refine frzT ?_ | refine frzL ?_ | refine slT ?_ | refine lstC_t ?_ | refine lstC_l ?_ | refine iOp ?_ | refine iTst ?_ | refine iTru ?_ | refine truB ?_
  | refine iAnd ?_ | refine iOr ?_ | refine iNot ?_ | refine iAndVK ?_ | refine andVT ?_ | refine andVF ?_ | refine andVDT (by decide) ?_ | refine andVDF (by decide) ?_ | refine ifDT (by decide) ?_ | refine ifDF (by decide) ?_ | refine iNotV ?_ | refine iIf ?_ | refine ifT ?_ | refine ifF ?_ | refine iCall ?_ | refine iCB ?_ | refine iMt ?_
  | refine iSl ?_ | refine iP ?_ | refine iNoP ?_ | refine iStar ?_ | refine iDGet ?_ | refine iIsi ?_ | refine iMatch ?_ | refine iFor ?_ | refine iISq ?_
  | refine rIx_i (by with_unfolding_all rfl) (by with_unfolding_all rfl) ?_ | refine rIx_i (by with_unfolding_all rfl) atI_0 ?_ | refine eq_strT ?_ | refine eq_strF (by with_unfolding_all rfl) ?_ | refine ne_strT ?_ | refine ne_strF (by with_unfolding_all rfl) ?_ | refine eq_ii ?_ | refine ne_ii ?_
  | refine caT ?_ | refine caF (by with_unfolding_all rfl) ?_ | refine caN ?_ | refine add_ii ?_ | refine int0 ?_ | refine len_t ?_ | refine len_l ?_ | refine tupC_t ?_ | refine tupC_l ?_
  | refine intC_i ?_ | refine intC_b ?_ | refine max2_ii ?_ | refine min2_ii ?_ | refine keyP_s ?_ | refine keyP_i ?_ | refine iIRg1 ?_ | refine iIRg2 ?_ | refine iIEnT ?_ | refine add_llb (by with_unfolding_all rfl) ?_ | refine add_ttb (by with_unfolding_all rfl) ?_
  | refine inn_T (by with_unfolding_all rfl) (by decide +kernel) (by decide +kernel) (by decide +kernel) ?_ | refine inn_F (by with_unfolding_all rfl) (by decide +kernel) (by decide +kernel) (by decide +kernel) ?_
  | refine isi_T (by with_unfolding_all rfl) (by decide +kernel) ?_ | refine isi_F (by with_unfolding_all rfl) (by decide +kernel) ?_ | refine iPsC ?_ | refine iPsN ?_)
theorem eq_over {w : Wk} {G : GH} {Q : DK} (h1 : okD (toD w)) (h : Q (.bl (isOver w)) G) : rCmp id (toD w) (.tup [.str "row", .tup []]) G Q := by
  have e := eqv_over (w := w)
  have k : okD (.tup [.str "row", .tup []]) := okD_of (by decide +kernel) (by decide +kernel)
  obtain ⟨l, hl⟩ : ∃ l, toD w = .tup l := by cases w <;> exact ⟨_, by rw [toD]⟩
  rw [hl] at h1 e ⊢
  refine eq_tt h1 k ?_
  rw [e]; exact h
theorem flatW_app (a b : List Wk) : flatW (a ++ b) = flatW a ++ flatW b := by
  induction a with
  | nil => simp [flatW]
  | cons x xs ih => simp [flatW, ih]
theorem rowOr (w : Wk) : (∃ us, w = .row us) ∨ (inRow w = [w] ∧ ∃ (s : String) (l : List D), toD w = .tup (.str (Str.ofString s) :: l) ∧ (s == "row") = false) := by
  cases w with
  | row us => exact .inl ⟨us, rfl⟩
  | _ => exact .inr ⟨rfl, _, _, by rw [toD], by decide⟩
def RT (n : Nat) : List D → D → Prop := fun ds d => ∃ w, ds = [toD w] ∧ okW 999 w ∧ zW w ≤ 100000 ∧ dpW w ≤ n ∧ d = toD (tidyW w)
theorem rt_at {n : Nat} {w : Wk} (h1 : okW 999 w) (h2 : zW w ≤ 100000) (h3 : dpW w ≤ n) : RT n [toD w] (toD (tidyW w)) := ⟨w, rfl, h1, h2, h3, rfl⟩
theorem okT {w : Wk} (h1 : okW 999 w) (h3 : dpW w ≤ 60) : okD (toD w) := okD_of (sm_toD (by decide) w h1) (by rw [dep_toD]; omega)
def TInv (n : Nat) (G0 : GH) (wd : D) (ws : List Wk) (p : Addr) (rest : List D) (ρ : DSt) (G : GH) : Prop :=
  ∃ done rs x4 x5, rest = toDs rs ∧ ws = done ++ rs ∧ okWs 999 rs ∧ zWs ws ≤ 100000 ∧ dpWs rs ≤ n ∧ Grow G0 G ∧ G p = some (.lst (toDs (flatW done))) ∧ ρ = [some wd, none, none, some (.ref p), x4, x5]
theorem tidy_rd {n : Nat} (hn : n + 1 ≤ 60) : ∀ ds G Q E, pSp (RT (n + 1)) ds G Q E → r_tidy (pSp (RT n)) { nx := fun _ G' => Q .non G', rt := Q } (startD 6 ds) G := by
  rintro ds G Q E ⟨d, ⟨w, rfl, ho, hz, hd, rfl⟩, hq⟩
  unfold r_tidy
  cases w with
  | tick m => rw [toD]; walk_at "ds"; exact hq G (Grow.refl G)
  | sme a b t => rw [toD]; walk_at "ds"; exact hq G (Grow.refl G)
  | lop a b t w => rw [toD]; walk_at "ds"; exact hq G (Grow.refl G)
  | eit ws => rw [toD]; walk_at "ds"; exact hq G (Grow.refl G)
  | bes a b =>
    rw [okW] at ho
    rw [zW] at hz
    rw [dpW] at hd
    rw [toD]; walk_at "ds"
    refine ⟨_, rt_at ho.1 (by omega) (by omega), fun G1 g1 => ?_⟩
    walk_at "ds"
    refine ⟨_, rt_at ho.2 (by omega) (by omega), fun G2 g2 => ?_⟩
    have ha := okT (tidy_ok a ho.1) (by have := tidy_dp a; omega)
    have hb := okT (tidy_ok b ho.2) (by have := tidy_dp b; omega)
    walk_at "ds"
    refine eq_over ha ?_
    have e := hq G2 (g1.trans g2)
    rw [tidyW] at e
    cases h1 : isOver (tidyW a) with
    | false =>
      rw [h1] at e
      walk_at "ds"
      exact e
    | true =>
      walk_at "ds"
      refine eq_over hb ?_
      cases h2 : isOver (tidyW b) with
      | false =>
        rw [h1, h2] at e
        walk_at "ds"
        exact e
      | true =>
        rw [h1, h2] at e
        walk_at "ds"
        exact e
  | row ws =>
    rw [okW] at ho
    rw [zW] at hz
    rw [dpW] at hd
    rw [tidyW] at hq
    rw [toD]; walk_at "ds"
    intro p hp
    walk_at "ds"
    refine dForGo_of (I := TInv n G (toD (.row ws)) ws p) ?_ ?_ _ _ _ ⟨[], ws, none, none, rfl, rfl, ho, by omega, by omega, Grow.upd hp, by rw [updG_same]; rfl, rfl⟩
    · rintro ρ G1 ⟨done, rs, x4, x5, e1, e2, -, -, -, g1, ep, rfl⟩
      have e3 : rs = [] := by
        cases rs with
        | nil => rfl
        | cons => rw [toDs] at e1; cases e1
      subst e3
      rw [List.append_nil] at e2
      subst e2
      refine ⟨trivial, ?_⟩
      have e := hq G1 g1
      walk_at "ds"
      refine len_r ep ?_
      walk_at "ds"
      refine ifD (fun h => ?_) (fun h => ?_)
      · have hl : (flatW ws).length = 1 := by rw [toDs_len] at h; omega
        match hf : flatW ws, hl with
        | [w], _ =>
          rw [hf] at e ep
          walk_at "ds"
          refine rIx_i (by rw [sqOf, ep]) (by rw [toDs]; exact atI_0) ?_
          exact e
      · have hl : (flatW ws).length ≠ 1 := by rw [toDs_len] at h; omega
        walk_at "ds"
        refine tupC_r ep ?_
        walk_at "ds"
        rcases mkRow_cases (flatW ws) with ⟨w, h1, -⟩ | h1
        · rw [h1] at hl; exact absurd rfl hl
        · rw [h1, toD] at e; exact e
    · rintro x xs ρ G1 ⟨done, rs, x4, x5, e1, e2, ho, hz, hd, g1, ep, rfl⟩ K hK
      match rs, e1 with
      | r :: rs, e1 =>
        rw [toDs] at e1
        injection e1 with e1 e3
        subst e1 e3
        rw [okWs] at ho
        rw [dpWs] at hd
        have hzr := zWs_app done (r :: rs)
        rw [← e2, zWs] at hzr
        refine ⟨trivial, ?_⟩
        walk_at "ds"
        refine ⟨_, rt_at ho.1 (by omega) (by omega), fun G2 g2 => ?_⟩
        have ep2 := g2 _ _ ep
        walk_at "ds"
        refine lstP_i ep2 ?_
        have hfl : (flatW done).length + (inRow (tidyW r)).length ≤ sizeLine := by
          have h1 := len_zWs (flatW (done ++ [r]))
          have h2 := flat_z (done ++ [r])
          rw [flatW_app, List.length_append] at h1
          rw [flatW_app] at h2
          simp only [flatW, List.append_nil] at h1 h2
          simp only [zWs_app, zWs] at h1 h2
          have : sizeLine = 16777216 := by decide
          omega
        have fin : ∀ x, K [some (toD (Wk.row ws)), none, none, some (.ref p), some (toD r), x] (updG G2 p (.lst (toDs (flatW done) ++ toDs (inRow (tidyW r))))) := fun x => by
          refine hK _ _ ⟨done ++ [r], rs, _, _, rfl, by rw [e2]; simp, ho.2, hz, by omega, Grow.upd2 hp (g1.trans g2), ?_, rfl⟩
          rw [updG_same, flatW_app]
          simp only [flatW, List.append_nil, toDs_app]
        rcases rowOr (tidyW r) with ⟨us, hu⟩ | ⟨hi, s, l, hl, hs⟩
        · rw [hu] at fin hfl ⊢
          rw [toD]
          walk_at "ds"
          refine ext_i ep2 rfl (by rw [toDs_len, toDs_len]; exact hfl) ?_
          walk_at "ds"
          exact fin _
        · rw [hi] at fin hfl
          rw [toDs, toDs, hl] at fin
          rw [hl]
          walk_at "ds"
          refine eq_strF hs ?_
          walk_at "ds"

          refine ext_i ep2 rfl (by rw [toDs_len]; exact hfl) ?_
          walk_at "ds"
          exact fin _
end K17

namespace K17
open PySem L2 Dl 
local macro_rules | `(tactic| walk_at "ds") => `(tactic| repeat' with_reducible first
  | refine iSeq ?_ | refine iNext ?_ | refine iIfS ?_ | refine iRet ?_ | refine iRetN ?_ | refine iDrop ?_ | refine iAsg ?_ | refine iPar ?_ | refine iGNm ?_
  | refine iGTp (by with_unfolding_all rfl) ?_ | refine iGsCons ?_ | refine iGsNil ?_ | refine iGSb ?_ | refine iVar (by with_unfolding_all rfl) ?_ | refine iC ?_ | refine iNil ?_ | refine iCons ?_
  | refine iTup ?_ | refine lenOk (by with_unfolding_all rfl) ?_ | refine iFrz ?_ | refine iLst ?_ | refine frzEnd ?_ | refine frzT ?_ | refine frzL ?_ | refine slT ?_ | refine lstC_t ?_ | refine lstC_l ?_ | refine iOp ?_ | refine iTst ?_ | refine iTru ?_ | refine truB ?_
  | refine iAnd ?_ | refine iOr ?_ | refine iNot ?_ | refine iAndVK ?_ | refine andVT ?_ | refine andVF ?_ | refine andVDT (by decide) ?_ | refine andVDF (by decide) ?_ | refine ifDT (by decide) ?_ | refine ifDF (by decide) ?_ | refine iNotV ?_ | refine iIf ?_ | refine ifT ?_ | refine ifF ?_ | refine iCall ?_ | refine iCB ?_ | refine iMt ?_
  | refine iSl ?_ | refine iP ?_ | refine iNoP ?_ | refine iStar ?_ | refine iDGet ?_ | refine iIsi ?_ | refine iMatch ?_ | refine iFor ?_ | refine iISq ?_
  | refine rIx_i (by with_unfolding_all rfl) (by with_unfolding_all rfl) ?_ | refine rIx_i (by with_unfolding_all rfl) atI_0 ?_ | refine eq_strT ?_ | refine eq_strF (by with_unfolding_all rfl) ?_ | refine ne_strT ?_ | refine ne_strF (by with_unfolding_all rfl) ?_ | refine eq_ii ?_ | refine ne_ii ?_
  | refine caT ?_ | refine caF (by with_unfolding_all rfl) ?_ | refine caN ?_ | refine add_ii ?_ | refine int0 ?_ | refine len_t ?_ | refine len_l ?_ | refine tupC_t ?_ | refine tupC_l ?_
  | refine intC_i ?_ | refine intC_b ?_ | refine max2_ii ?_ | refine min2_ii ?_ | refine keyP_s ?_ | refine keyP_i ?_ | refine iIRg1 ?_ | refine iIRg2 ?_ | refine iIEnT ?_ | refine add_llb (by with_unfolding_all rfl) ?_ | refine add_ttb (by with_unfolding_all rfl) ?_
  | refine inn_T (by with_unfolding_all rfl) (by decide +kernel) (by decide +kernel) (by decide +kernel) ?_ | refine inn_F (by with_unfolding_all rfl) (by decide +kernel) (by decide +kernel) (by decide +kernel) ?_
  | refine isi_T (by with_unfolding_all rfl) (by decide +kernel) ?_ | refine isi_F (by with_unfolding_all rfl) (by decide +kernel) ?_ | refine iPsC ?_ | refine iPsN ?_)
theorem law_tidy_rd {n : Nat} (hn : n + 1 ≤ 60) : ∀ ds G Q E, pSp (RT (n + 1)) ds G Q E → r_law_tidy (pSp (RT n)) { nx := fun _ G' => Q .non G', rt := Q } (startD 6 ds) G := by
  rintro ds G Q E ⟨d, ⟨w, rfl, ho, hz, hd, rfl⟩, hq⟩
  unfold r_law_tidy
  cases w with
  | tick m => rw [toD]; walk_at "ds"; exact hq G (Grow.refl G)
  | sme a b t => rw [toD]; walk_at "ds"; exact hq G (Grow.refl G)
  | lop a b t w => rw [toD]; walk_at "ds"; exact hq G (Grow.refl G)
  | eit ws => rw [toD]; walk_at "ds"; exact hq G (Grow.refl G)
  | bes a b =>
    rw [okW] at ho
    rw [zW] at hz
    rw [dpW] at hd
    rw [toD]; walk_at "ds"
    refine ⟨_, rt_at ho.1 (by omega) (by omega), fun G1 g1 => ?_⟩
    walk_at "ds"
    refine ⟨_, rt_at ho.2 (by omega) (by omega), fun G2 g2 => ?_⟩
    have ha := okT (tidy_ok a ho.1) (by have := tidy_dp a; omega)
    have hb := okT (tidy_ok b ho.2) (by have := tidy_dp b; omega)
    walk_at "ds"
    refine eq_over ha ?_
    have e := hq G2 (g1.trans g2)
    rw [tidyW] at e
    cases h1 : isOver (tidyW a) with
    | false =>
      rw [h1] at e
      walk_at "ds"
      exact e
    | true =>
      walk_at "ds"
      refine eq_over hb ?_
      cases h2 : isOver (tidyW b) with
      | false =>
        rw [h1, h2] at e
        walk_at "ds"
        exact e
      | true =>
        rw [h1, h2] at e
        walk_at "ds"
        exact e
  | row ws =>
    rw [okW] at ho
    rw [zW] at hz
    rw [dpW] at hd
    rw [tidyW] at hq
    rw [toD]; walk_at "ds"
    intro p hp
    walk_at "ds"
    refine dForGo_of (I := TInv n G (toD (.row ws)) ws p) ?_ ?_ _ _ _ ⟨[], ws, none, none, rfl, rfl, ho, by omega, by omega, Grow.upd hp, by rw [updG_same]; rfl, rfl⟩
    · rintro ρ G1 ⟨done, rs, x4, x5, e1, e2, -, -, -, g1, ep, rfl⟩
      have e3 : rs = [] := by
        cases rs with
        | nil => rfl
        | cons => rw [toDs] at e1; cases e1
      subst e3
      rw [List.append_nil] at e2
      subst e2
      refine ⟨trivial, ?_⟩
      have e := hq G1 g1
      walk_at "ds"
      refine len_r ep ?_
      walk_at "ds"
      refine ifD (fun h => ?_) (fun h => ?_)
      · have hl : (flatW ws).length = 1 := by rw [toDs_len] at h; omega
        match hf : flatW ws, hl with
        | [w], _ =>
          rw [hf] at e ep
          walk_at "ds"
          refine rIx_i (by rw [sqOf, ep]) (by rw [toDs]; exact atI_0) ?_
          exact e
      · have hl : (flatW ws).length ≠ 1 := by rw [toDs_len] at h; omega
        walk_at "ds"
        refine tupC_r ep ?_
        walk_at "ds"
        rcases mkRow_cases (flatW ws) with ⟨w, h1, -⟩ | h1
        · rw [h1] at hl; exact absurd rfl hl
        · rw [h1, toD] at e; exact e
    · rintro x xs ρ G1 ⟨done, rs, x4, x5, e1, e2, ho, hz, hd, g1, ep, rfl⟩ K hK
      match rs, e1 with
      | r :: rs, e1 =>
        rw [toDs] at e1
        injection e1 with e1 e3
        subst e1 e3
        rw [okWs] at ho
        rw [dpWs] at hd
        have hzr := zWs_app done (r :: rs)
        rw [← e2, zWs] at hzr
        refine ⟨trivial, ?_⟩
        walk_at "ds"
        refine ⟨_, rt_at ho.1 (by omega) (by omega), fun G2 g2 => ?_⟩
        have ep2 := g2 _ _ ep
        walk_at "ds"
        refine lstP_i ep2 ?_
        have hfl : (flatW done).length + (inRow (tidyW r)).length ≤ sizeLine := by
          have h1 := len_zWs (flatW (done ++ [r]))
          have h2 := flat_z (done ++ [r])
          rw [flatW_app, List.length_append] at h1
          rw [flatW_app] at h2
          simp only [flatW, List.append_nil] at h1 h2
          simp only [zWs_app, zWs] at h1 h2
          have : sizeLine = 16777216 := by decide
          omega
        have fin : ∀ x, K [some (toD (Wk.row ws)), none, none, some (.ref p), some (toD r), x] (updG G2 p (.lst (toDs (flatW done) ++ toDs (inRow (tidyW r))))) := fun x => by
          refine hK _ _ ⟨done ++ [r], rs, _, _, rfl, by rw [e2]; simp, ho.2, hz, by omega, Grow.upd2 hp (g1.trans g2), ?_, rfl⟩
          rw [updG_same, flatW_app]
          simp only [flatW, List.append_nil, toDs_app]
        rcases rowOr (tidyW r) with ⟨us, hu⟩ | ⟨hi, s, l, hl, hs⟩
        · rw [hu] at fin hfl ⊢
          rw [toD]
          walk_at "ds"
          refine ext_i ep2 rfl (by rw [toDs_len, toDs_len]; exact hfl) ?_
          walk_at "ds"
          exact fin _
        · rw [hi] at fin hfl
          rw [toDs, toDs, hl] at fin
          rw [hl]
          walk_at "ds"
          refine eq_strF hs ?_
          walk_at "ds"

          refine ext_i ep2 rfl (by rw [toDs_len]; exact hfl) ?_
          walk_at "ds"
          exact fin _

theorem flat_fix : ∀ {l : List Wk}, (∀ x ∈ l, tidyW x = x ∧ inRow x = [x]) → flatW l = l
  | [], _ => by simp [flatW]
  | x :: xs, h => by
    have h1 := h x (List.mem_cons_self ..)
    have h2 := flat_fix fun y hy => h y (List.mem_cons_of_mem _ hy)
    rw [flatW, h1.1, h1.2, h2]; rfl
mutual
theorem tidy_idem : ∀ w : Wk, tidyW (tidyW w) = tidyW w ∧ ∀ x ∈ inRow (tidyW w), tidyW x = x ∧ inRow x = [x]
  | .tick _ => by simp [tidyW, inRow]
  | .sme _ _ _ => by simp [tidyW, inRow]
  | .lop _ _ _ _ => by simp [tidyW, inRow]
  | .eit _ => by simp [tidyW, inRow]
  | .row ws => by
    have h := flat_idem ws
    have e := flat_fix h
    rw [tidyW]
    rcases mkRow_cases (flatW ws) with ⟨w, h1, h2⟩ | h2
    · rw [h2]
      have h3 := h w (by rw [h1]; exact List.mem_singleton.mpr rfl)
      refine ⟨h3.1, fun x hx => ?_⟩
      rw [h3.2, List.mem_singleton] at hx
      subst hx
      exact h3
    · rw [h2]
      refine ⟨by rw [tidyW, e, h2], fun x hx => h x hx⟩
  | .bes a b => by
    have h1 := (tidy_idem a).1
    have h2 := (tidy_idem b).1
    have key : ∀ c, (isOver (tidyW a) && isOver (tidyW b)) = c → tidyW (.bes a b) = if c = true then .row [] else .bes (tidyW a) (tidyW b) := fun c e => by rw [tidyW, e]
    cases c : isOver (tidyW a) && isOver (tidyW b) with
    | true =>
      have k := key _ c
      rw [if_pos rfl] at k
      rw [k]
      refine ⟨by simp [tidyW, flatW, mkRow], fun x hx => ?_⟩
      simp [inRow] at hx
    | false =>
      have k := key _ c
      rw [if_neg (by decide)] at k
      rw [k]
      have k2 : tidyW (.bes (tidyW a) (tidyW b)) = .bes (tidyW a) (tidyW b) := by
        rw [tidyW, h1, h2, c, if_neg (by decide)]
      refine ⟨k2, fun x hx => ?_⟩
      simp only [inRow, List.mem_singleton] at hx
      subst hx
      exact ⟨k2, rfl⟩
theorem flat_idem : ∀ ws : List Wk, ∀ x ∈ flatW ws, tidyW x = x ∧ inRow x = [x]
  | [], x, hx => by simp [flatW] at hx
  | w :: ws, x, hx => by
    rw [flatW] at hx
    rcases List.mem_append.mp hx with q | q
    · exact (tidy_idem w).2 x q
    · exact flat_idem ws x q
end
theorem tidy_besL (a b : Wk) : tidyW (.bes (tidyW a) b) = tidyW (.bes a b) := by rw [tidyW, tidyW, (tidy_idem a).1]
theorem tidy_besR (a b : Wk) : tidyW (.bes a (tidyW b)) = tidyW (.bes a b) := by rw [tidyW, tidyW, (tidy_idem b).1]
theorem tidy_rowC (a : Wk) (ws : List Wk) : tidyW (.row (tidyW a :: ws)) = tidyW (.row (a :: ws)) := by rw [tidyW, tidyW, flatW, flatW, (tidy_idem a).1]
theorem tidy_tk (n : Int) : tidyW (tkW n) = tkW n := by unfold tkW; split <;> simp [tidyW, flatW, mkRow]
theorem tidy_over : tidyW (.row []) = .row [] := by simp [tidyW, flatW, mkRow]
end K17

namespace K17
open PySem L2 Dl 
local macro_rules | `(tactic| walk_at "ds") => `(tactic| repeat' with_reducible first
  | refine iSeq ?_ | refine iNext ?_ | refine iIfS ?_ | refine iRet ?_ | refine iRetN ?_ | refine iDrop ?_ | refine iAsg ?_ | refine iPar ?_ | refine iGNm ?_
  | refine iGTp (by with_unfolding_all rfl) ?_ | refine iGsCons ?_ | refine iGsNil ?_ | refine iGSb ?_ | refine iVar (by with_unfolding_all rfl) ?_ | refine iC ?_ | refine iNil ?_ | refine iCons ?_
  | refine iTup ?_ | refine lenOk (by with_unfolding_all rfl) ?_ | refine iFrz ?_ | refine iLst ?_ | refine frzEnd ?_ | refine frzT ?_ | refine frzL ?_ | refine slT ?_ | refine lstC_t ?_ | refine lstC_l ?_ | refine iOp ?_ | refine iTst ?_ | refine iTru ?_ | refine truB ?_
  | refine iAnd ?_ | refine iOr ?_ | refine iNot ?_ | refine iAndVK ?_ | refine andVT ?_ | refine andVF ?_ | refine andVDT (by decide) ?_ | refine andVDF (by decide) ?_ | refine ifDT (by decide) ?_ | refine ifDF (by decide) ?_ | refine iNotV ?_ | refine iIf ?_ | refine ifT ?_ | refine ifF ?_ | refine iCall ?_ | refine iCB ?_ | refine iMt ?_
  | refine iSl ?_ | refine iP ?_ | refine iNoP ?_ | refine iStar ?_ | refine iDGet ?_ | refine iIsi ?_ | refine iMatch ?_ | refine iFor ?_ | refine iISq ?_
  | refine rIx_i (by with_unfolding_all rfl) (by with_unfolding_all rfl) ?_ | refine rIx_i (by with_unfolding_all rfl) atI_0 ?_ | refine eq_strT ?_ | refine eq_strF (by with_unfolding_all rfl) ?_ | refine ne_strT ?_ | refine ne_strF (by with_unfolding_all rfl) ?_ | refine eq_ii ?_ | refine ne_ii ?_
  | refine caT ?_ | refine caF (by with_unfolding_all rfl) ?_ | refine caN ?_ | refine add_ii ?_ | refine int0 ?_ | refine len_t ?_ | refine len_l ?_ | refine tupC_t ?_ | refine tupC_l ?_
  | refine intC_i ?_ | refine intC_b ?_ | refine max2_ii ?_ | refine min2_ii ?_ | refine keyP_s ?_ | refine keyP_i ?_ | refine iIRg1 ?_ | refine iIRg2 ?_ | refine iIEnT ?_ | refine add_llb (by with_unfolding_all rfl) ?_ | refine add_ttb (by with_unfolding_all rfl) ?_
  | refine inn_T (by with_unfolding_all rfl) (by decide +kernel) (by decide +kernel) (by decide +kernel) ?_ | refine inn_F (by with_unfolding_all rfl) (by decide +kernel) (by decide +kernel) (by decide +kernel) ?_
  | refine isi_T (by with_unfolding_all rfl) (by decide +kernel) ?_ | refine isi_F (by with_unfolding_all rfl) (by decide +kernel) ?_ | refine iPsC ?_ | refine iPsN ?_)
def stepF (w : Wk) (s : Sg) : D := .tup [sgD s, toD (tidyW (behW w s))]
def stepD (w : Wk) : D := .lst ((nxW w).map (stepF w))
def RL : List D → D → Prop := fun ds d => ∃ n : Int, ds = [.int n] ∧ 0 ≤ n ∧ d = toD (tkW n)
theorem ticks_left_rd : ∀ ds G Q E, pSp RL ds G Q E → r_ticks_left { nx := fun _ G' => Q .non G', rt := Q } (startD 1 ds) G := by
  rintro ds G Q E ⟨d, ⟨n, rfl, h0, rfl⟩, hq⟩
  unfold r_ticks_left
  have e := hq G (Grow.refl G)
  unfold tkW at e
  walk_at "ds"
  refine ifD (fun h => ?_) (fun h => ?_)
  · walk_at "ds"
    rw [if_neg (by omega)] at e
    exact e
  · walk_at "ds"
    rw [if_pos (by omega)] at e
    exact e
def RSo : List D → D → Prop := fun ds d => ∃ (a b : Int) (t : Bool), ds = [.int a, .int b, .bl t] ∧ okW 999 (.sme a b t) ∧ d = stepD (.sme a b t)
theorem some_steps_rd : ∀ ds G Q E, pSp RSo ds G Q E → r_some_steps (pSp RL) { nx := fun _ G' => Q .non G', rt := Q } (startD 5 ds) G := by
  rintro ds G Q E ⟨d, ⟨a, b, t, rfl, ho, rfl⟩, hq⟩
  unfold r_some_steps
  rw [okW] at ho
  cases t with
  | true =>
    walk_at "ds"
    refine lcF (List.range (b + 1 - a).toNat) (fun i => .int (a + (i : Nat))) (fun i => stepF (.sme a b true) (.many (a + (i : Nat)))) ?_ ?_ ?_ ?_
    · intro P hP
      walk_at "ds"
      exact ⟨by omega, hP _ _ (fun _ => trivial) (Grow.refl _)⟩
    · have : sizeLine = 16777216 := by decide
      rw [List.length_range]; omega
    · intro i hi
      refine ⟨_, rfl, fun G1 K hK => ?_⟩
      rw [List.mem_range] at hi
      walk_at "ds"
      refine ⟨_, ⟨a + (i : Nat), rfl, by omega, rfl⟩, fun G2 g2 => ?_⟩
      walk_at "ds"
      have e := hK G2 g2
      simp only [stepF, sgD, behW, tidy_tk] at e
      exact e
    · intro G' g
      have e := hq G' g
      simp only [stepD, nxW, if_true, manyS, List.map_map] at e
      exact e
  | false =>
    have e := hq G (Grow.refl G)
    simp only [stepD, nxW, Bool.false_eq_true, if_false] at e
    walk_at "ds"
    refine ifD (fun h => ?_) (fun h => ?_)
    · rw [if_pos h] at e
      walk_at "ds"
      refine ifD (fun h => ?_) (fun h => ?_)
      · rw [if_pos h] at e
        walk_at "ds"
        simp only [List.map_append, List.map_cons, List.map_nil, stepF, sgD, behW, tidyW, flatW, mkRow, toD, toDs] at e
        exact e
      · rw [if_neg h] at e
        walk_at "ds"
        simp only [List.map_append, List.map_cons, List.map_nil, stepF, sgD, behW, tidyW, flatW, mkRow, toD, toDs] at e
        exact e
    · rw [if_neg h] at e
      walk_at "ds"
      refine ifD (fun h => ?_) (fun h => ?_)
      · rw [if_pos h] at e
        walk_at "ds"
        simp only [List.map_append, List.map_cons, List.map_nil, stepF, sgD, behW, tidyW, flatW, mkRow, toD, toDs] at e
        exact e
      · rw [if_neg h] at e
        walk_at "ds"
        simp only [List.map_append, List.map_cons, List.map_nil, stepF, sgD, behW, tidyW, flatW, mkRow, toD, toDs] at e
        exact e
def RLo : List D → D → Prop := fun ds d => ∃ (a b : Int) (t : Bool) (w : Wk), ds = [.int a, .int b, .bl t, toD w] ∧ okW 999 (.lop a b t w) ∧ zW (.lop a b t w) ≤ 100000 ∧ dpW (.lop a b t w) ≤ 58 ∧ d = stepD (.lop a b t w)
theorem loop_steps_rd : ∀ ds G Q E, pSp RLo ds G Q E → r_loop_steps (pSp (RT 60)) { nx := fun _ G' => Q .non G', rt := Q } (startD 7 ds) G := by
  rintro ds G Q E ⟨d, ⟨a, b, t, w, rfl, ho, hz, hd, rfl⟩, hq⟩
  unfold r_loop_steps
  have ho' := ho
  rw [okW] at ho
  cases t with
  | true =>
    walk_at "ds"
    refine lcF (List.range (b + 1 - a).toNat) (fun i => .int (a + (i : Nat))) (fun i => stepF (.lop a b true w) (.many (a + (i : Nat)))) ?_ ?_ ?_ ?_
    · intro P hP
      walk_at "ds"
      exact ⟨by omega, hP _ _ (fun _ => trivial) (Grow.refl _)⟩
    · have : sizeLine = 16777216 := by decide
      rw [List.length_range]; omega
    · intro i hi
      refine ⟨_, rfl, fun G1 K hK => ?_⟩
      have hm : Sg.many (a + (i : Nat)) ∈ nxW (.lop a b true w) := by
        rw [nxW, if_pos rfl]; exact List.mem_map.mpr ⟨i, hi, rfl⟩
      rw [List.mem_range] at hi
      have hb := beh_ok (B := 999) _ _ ho' hm
      rw [show behW (.lop a b true w) (.many (a + (i : Nat))) = .row (List.replicate (a + (i : Nat)).toNat w) from by simp [behW]] at hb
      walk_at "ds"
      refine mul_ti (by omega) (by omega) (by simp) ?_
      walk_at "ds"
      refine ⟨_, ⟨.row (List.replicate (a + (i : Nat)).toNat w), ?_, hb.ok, by have := hb.z; omega, by have := hb.dp; omega, rfl⟩, fun G2 g2 => ?_⟩
      · rw [toD, toDs_rep, rep_one]
      walk_at "ds"
      have e := hK G2 g2
      simp only [stepF, sgD, behW] at e
      exact e
    · intro G' g
      have e := hq G' g
      simp only [stepD, nxW, if_true, manyS, List.map_map] at e
      exact e
  | false =>
    have e := hq
    simp only [stepD, nxW, Bool.false_eq_true, if_false] at e
    walk_at "ds"
    refine ifD (fun h => ?_) (fun h => ?_)
    · have hb := beh_ok (B := 999) (.lop a b false w) .more ho' (by rw [nxW, if_neg (by decide), if_pos h]; exact List.mem_append_left _ (List.mem_singleton.mpr rfl))
      rw [show behW (.lop a b false w) .more = .row [w, .lop (dec0 a) (b - 1) false w] from by simp [behW]] at hb
      rw [if_pos h] at e
      walk_at "ds"
      refine ⟨_, ⟨.row [w, .lop (dec0 a) (b - 1) false w], ?_, hb.ok, by have := hb.z; omega, by have := hb.dp; omega, rfl⟩, fun G2 g2 => ?_⟩
      · simp only [toD, toDs]; rfl
      have e := e G2 g2
      walk_at "ds"
      refine ifD (fun h => ?_) (fun h => ?_)
      · rw [if_pos h] at e
        walk_at "ds"
        simp only [List.map_append, List.map_cons, List.map_nil, stepF, sgD, behW, tidy_over] at e
        simp only [toD, toDs] at e
        exact e
      · rw [if_neg h] at e
        walk_at "ds"
        simp only [List.map_append, List.map_cons, List.map_nil, stepF, sgD, behW, tidy_over] at e
        exact e
    · rw [if_neg h] at e
      have e := e G (Grow.refl G)
      walk_at "ds"
      refine ifD (fun h => ?_) (fun h => ?_)
      · rw [if_pos h] at e
        walk_at "ds"
        simp only [List.map_append, List.map_cons, List.map_nil, stepF, sgD, behW, tidy_over] at e
        simp only [toD, toDs] at e
        exact e
      · rw [if_neg h] at e
        walk_at "ds"
        simp only [List.map_append, List.map_cons, List.map_nil, stepF, sgD, behW, tidy_over] at e
        exact e
end K17

namespace K17
open PySem L2 Dl 
local macro_rules | `(tactic| walk_at "ds") => `(tactic| repeat' with_reducible first
  | refine iSeq ?_ | refine iNext ?_ | refine iIfS ?_ | refine iRet ?_ | refine iRetN ?_ | refine iDrop ?_ | refine iAsg ?_ | refine iPar ?_ | refine iGNm ?_
  | refine iGTp (by with_unfolding_all rfl) ?_ | refine iGsCons ?_ | refine iGsNil ?_ | refine iGSb ?_ | refine iVar (by with_unfolding_all rfl) ?_ | refine iC ?_ | refine iNil ?_ | refine iCons ?_
  | refine iTup ?_ | refine lenOk (by with_unfolding_all rfl) ?_ | refine iFrz ?_ | refine iLst ?_ | refine frzEnd ?_ | refine frzT ?_ | refine frzL ?_ | refine slT ?_ | refine lstC_t ?_ | refine lstC_l ?_ | refine iOp ?_ | refine iTst ?_ | refine iTru ?_ | refine truB ?_
  | refine iAnd ?_ | refine iOr ?_ | refine iNot ?_ | refine iAndVK ?_ | refine andVT ?_ | refine andVF ?_ | refine andVDT (by decide) ?_ | refine andVDF (by decide) ?_ | refine ifDT (by decide) ?_ | refine ifDF (by decide) ?_ | refine iNotV ?_ | refine iIf ?_ | refine ifT ?_ | refine ifF ?_ | refine iCall ?_ | refine iCB ?_ | refine iMt ?_
  | refine iSl ?_ | refine iP ?_ | refine iNoP ?_ | refine iStar ?_ | refine iDGet ?_ | refine iIsi ?_ | refine iMatch ?_ | refine iFor ?_ | refine iISq ?_
  | refine rIx_i (by with_unfolding_all rfl) (by with_unfolding_all rfl) ?_ | refine rIx_i (by with_unfolding_all rfl) atI_0 ?_ | refine eq_strT ?_ | refine eq_strF (by with_unfolding_all rfl) ?_ | refine ne_strT ?_ | refine ne_strF (by with_unfolding_all rfl) ?_ | refine eq_ii ?_ | refine ne_ii ?_
  | refine caT ?_ | refine caF (by with_unfolding_all rfl) ?_ | refine caN ?_ | refine add_ii ?_ | refine int0 ?_ | refine len_t ?_ | refine len_l ?_ | refine tupC_t ?_ | refine tupC_l ?_
  | refine intC_i ?_ | refine intC_b ?_ | refine max2_ii ?_ | refine min2_ii ?_ | refine keyP_s ?_ | refine keyP_i ?_ | refine iIRg1 ?_ | refine iIRg2 ?_ | refine iIEnT ?_ | refine add_llb (by with_unfolding_all rfl) ?_ | refine add_ttb (by with_unfolding_all rfl) ?_
  | refine inn_T (by with_unfolding_all rfl) (by decide +kernel) (by decide +kernel) (by decide +kernel) ?_ | refine inn_F (by with_unfolding_all rfl) (by decide +kernel) (by decide +kernel) (by decide +kernel) ?_
  | refine isi_T (by with_unfolding_all rfl) (by decide +kernel) ?_ | refine isi_F (by with_unfolding_all rfl) (by decide +kernel) ?_ | refine iPsC ?_ | refine iPsN ?_)
def RS (n : Nat) : List D → D → Prop := fun ds d => ∃ w, ds = [toD w] ∧ okW 999 w ∧ zW w ≤ 10000 ∧ dpW w ≤ n ∧ d = stepD w
theorem rs_at {n : Nat} {w : Wk} (h1 : okW 999 w) (h2 : zW w ≤ 10000) (h3 : dpW w ≤ n) : RS n [toD w] (stepD w) := ⟨w, rfl, h1, h2, h3, rfl⟩
theorem nx_size {w : Wk} (h : okW 999 w) (hz : zW w ≤ 10000) : (nxW w).length ≤ 5000000 := by
  have h1 := nx_len (B := 999) (by decide) w h
  have h2 : (999 + 1 : Int).toNat * zW w ≤ (999 + 1 : Int).toNat * 10000 := Nat.mul_le_mul_left _ hz
  have h3 : (999 + 1 : Int).toNat * 10000 = 10000000 := by decide
  omega
theorem sizeL : sizeLine = 16777216 := by decide
theorem tb_at {w : Wk} {s : Sg} (h : okW 999 w) (hs : s ∈ nxW w) : okW 999 (tidyW (behW w s)) ∧ zW (tidyW (behW w s)) ≤ zW w ∧ dpW (tidyW (behW w s)) ≤ dpW w + 2 := by
  have hb := beh_ok (B := 999) w s h hs
  exact ⟨tidy_ok _ hb.ok, Nat.le_trans (tidy_z _) hb.z, Nat.le_trans (tidy_dp _) hb.dp⟩
def RB (n : Nat) : List D → D → Prop := fun ds d => ∃ a b, ds = [toD a, toD b] ∧ okW 999 (.bes a b) ∧ zW (.bes a b) ≤ 10000 ∧ dpW a ≤ n ∧ dpW b ≤ n ∧ d = stepD (.bes a b)
theorem beside_steps_rd {n : Nat} (hn : n ≤ 56) : ∀ ds G Q E, pSp (RB n) ds G Q E → r_beside_steps (pSp (RS n)) (pSp (RT 60)) { nx := fun _ G' => Q .non G', rt := Q } (startD 5 ds) G := by
  rintro ds G Q E ⟨d, ⟨a, b, rfl, ho, hz, hda, hdb, rfl⟩, hq⟩
  unfold r_beside_steps
  rw [okW] at ho
  rw [zW] at hz
  have la := nx_size ho.1 (by omega)
  have lb := nx_size ho.2 (by omega)
  walk_at "ds"
  refine lcF (nxW a) (stepF a) (fun s => stepF (.bes a b) (.left s)) ?_ (by rw [sizeL]; omega) ?_ ?_
  · intro P hP
    walk_at "ds"
    refine ⟨_, rs_at ho.1 (by omega) hda, fun G1 g1 => ?_⟩
    exact hP _ _ (fun _ => trivial) g1
  · intro s hs
    refine ⟨_, rfl, fun G1 K hK => ?_⟩
    obtain ⟨h1, h2, h3⟩ := tb_at ho.1 hs
    walk_at "ds"
    refine ⟨_, ⟨.bes (tidyW (behW a s)) b, by rw [toD], by rw [okW]; exact ⟨h1, ho.2⟩, by rw [zW]; omega, by rw [dpW]; omega, rfl⟩, fun G2 g2 => ?_⟩
    walk_at "ds"
    have e := hK G2 g2
    simp only [stepF, sgD, behW] at e
    rw [tidy_besL]
    exact e
  intro G1 g1
  walk_at "ds"
  refine lcF (nxW b) (stepF b) (fun s => stepF (.bes a b) (.right s)) ?_ (by rw [sizeL]; omega) ?_ ?_
  · intro P hP
    walk_at "ds"
    refine ⟨_, rs_at ho.2 (by omega) hdb, fun G1 g1 => ?_⟩
    exact hP _ _ (fun _ => trivial) g1
  · intro s hs
    refine ⟨_, rfl, fun G1 K hK => ?_⟩
    obtain ⟨h1, h2, h3⟩ := tb_at ho.2 hs
    walk_at "ds"
    refine ⟨_, ⟨.bes a (tidyW (behW b s)), by rw [toD], by rw [okW]; exact ⟨ho.1, h1⟩, by rw [zW]; omega, by rw [dpW]; omega, rfl⟩, fun G2 g2 => ?_⟩
    walk_at "ds"
    have e := hK G2 g2
    simp only [stepF, sgD, behW] at e
    rw [tidy_besR]
    exact e
  intro G2 g2
  walk_at "ds"
  refine add_ll (by rw [List.length_map, List.length_map, sizeL]; omega) ?_
  walk_at "ds"
  have e := hq G2 (g1.trans g2)
  simp only [stepD, nxW, List.map_append, List.map_map] at e
  exact e
theorem steps_of_rd {n : Nat} (hn : n + 1 ≤ 56) : ∀ ds G Q E, pSp (RS (n + 1)) ds G Q E → r_steps_of (pSp (RT 60)) (pSp (RS n)) (pSp (RB n)) (pSp RLo) (pSp RSo) (pSp RL) { nx := fun _ G' => Q .non G', rt := Q } (startD 7 ds) G := by
  rintro ds G Q E ⟨d, ⟨w, rfl, ho, hz, hd, rfl⟩, hq⟩
  unfold r_steps_of
  cases w with
  | tick m =>
    rw [okW] at ho
    rw [toD]; walk_at "ds"
    refine ⟨_, ⟨m - 1, rfl, by omega, rfl⟩, fun G1 g1 => ?_⟩
    walk_at "ds"
    have e := hq G1 g1
    simp only [stepD, nxW, List.map_cons, List.map_nil, stepF, sgD, behW, tidy_tk] at e
    exact e
  | sme a b t =>
    rw [toD]; walk_at "ds"
    exact ⟨_, ⟨a, b, t, rfl, ho, rfl⟩, fun G1 g1 => hq G1 g1⟩
  | lop a b t w =>
    rw [toD]; walk_at "ds"
    exact ⟨_, ⟨a, b, t, w, rfl, ho, by omega, by omega, rfl⟩, fun G1 g1 => hq G1 g1⟩
  | eit ws =>
    rw [okW] at ho
    rw [zW] at hz
    rw [dpW] at hd
    have hl := len_zWs ws
    rw [toD]; walk_at "ds"
    refine lcF (List.range ws.length) (fun i => .tup [.int (i : Nat), (toDs ws).getD i .non]) (fun i => stepF (.eit ws) (.way i)) ?_ (by rw [sizeL, List.length_range]; omega) ?_ ?_
    · intro P hP
      walk_at "ds"
      show P (enumD (toDs ws)) okAll G
      rw [enumD_map, toDs_len]
      exact hP _ _ (fun _ => trivial) (Grow.refl _)
    · intro i hi
      rw [List.mem_range] at hi
      have m : ws[i] ∈ ws := List.getElem_mem hi
      have h1 := zWs_mem m
      have h2 := dpWs_mem m
      have e0 : (toDs ws).getD i .non = toD ws[i] := by rw [toDs_map]; simp [List.getD, hi]
      rw [e0]
      refine ⟨_, rfl, fun G1 K hK => ?_⟩
      walk_at "ds"
      refine ⟨_, rt_at (okWs_iff.mp ho.2 _ m) (by omega) (by omega), fun G2 g2 => ?_⟩
      walk_at "ds"
      have e := hK G2 g2
      simp only [stepF, sgD, behW] at e
      rw [show ws.getD i (.row []) = ws[i] from by simp [List.getD, hi]] at e
      exact e
    · intro G' g
      have e := hq G' g
      simp only [stepD, nxW, List.map_map] at e
      exact e
  | bes a b =>
    have hz' := hz
    rw [dpW] at hd
    rw [toD]; walk_at "ds"
    exact ⟨_, ⟨a, b, rfl, ho, hz, by omega, by omega, rfl⟩, fun G1 g1 => hq G1 g1⟩
  | row ws =>
    rw [okW] at ho
    rw [zW] at hz
    rw [dpW] at hd
    cases ws with
    | nil =>
      simp only [toD, toDs]
      walk_at "ds"
      refine ne_tt (okD_of (by decide +kernel) (by decide +kernel)) (okD_of (by decide +kernel) (by decide +kernel)) ?_
      rw [show eqvD (.tup []) (.tup []) = true from by decide +kernel]
      walk_at "ds"
      refine ifF ?_
      walk_at "ds"
      refine lcF ([] : List Sg) (stepF (.row [])) (stepF (.row [])) ?_ (by decide) ?_ ?_
      · intro P hP
        walk_at "ds"
        exact hP _ _ (fun _ => trivial) (Grow.refl _)
      · intro s hs; cases hs
      · intro G' g
        have e := hq G' g
        simp only [stepD, nxW, nxWs] at e
        exact e
    | cons w ws =>
      rw [okWs] at ho
      rw [zWs] at hz
      rw [dpWs] at hd
      have hk : okD (.tup (toDs (w :: ws))) := okD_of (by rw [smD]; exact sm_toDs (B := 999) (by decide) _ (by rw [okWs]; exact ho)) (by rw [depD, dep_toDs, dpWs]; omega)
      have hl := nx_size ho.1 (by omega)
      rw [toD]
      walk_at "ds"
      refine ne_tt hk (okD_of (by decide +kernel) (by decide +kernel)) ?_
      rw [show eqvD (.tup (toDs (w :: ws))) (.tup []) = false from by simp [toDs, eqvD, eqvDs]]
      walk_at "ds"
      refine ifT ?_
      walk_at "ds"
      refine ⟨_, rs_at ho.1 (by omega) (by omega), fun G1 g1 => ?_⟩
      walk_at "ds"
      refine lcF (nxW w) (stepF w) (fun s => stepF (.row (w :: ws)) s) ?_ (by rw [sizeL]; omega) ?_ ?_
      · intro P hP
        walk_at "ds"
        exact hP _ _ (fun _ => trivial) (Grow.refl _)
      · intro s hs
        refine ⟨_, rfl, fun G1 K hK => ?_⟩
        obtain ⟨h1, h2, h3⟩ := tb_at ho.1 hs
        walk_at "ds"
        rw [toDs, cut1]
        walk_at "ds"
        refine ⟨by rw [List.append_nil, List.length_cons, toDs_len, sizeL]; have := len_zWs ws; omega, ?_⟩
        walk_at "ds"
        refine ⟨_, ⟨.row (tidyW (behW w s) :: ws), by rw [toD, toDs, List.append_nil], by rw [okW, okWs]; exact ⟨h1, ho.2⟩, by rw [zW, zWs]; omega, by rw [dpW, dpWs]; omega, rfl⟩, fun G2 g2 => ?_⟩
        walk_at "ds"
        have e := hK G2 g2
        simp only [stepF, behW, behWs] at e
        rw [tidy_rowC]
        exact e
      · intro G' g
        have e := hq G' (g1.trans g)
        simp only [stepD, nxW, nxWs] at e
        exact e
end K17

namespace K17
open PySem L2 Dl 
local macro_rules | `(tactic| walk_at "ds") => `(tactic| repeat' with_reducible first
  | refine iSeq ?_ | refine iNext ?_ | refine iIfS ?_ | refine iRet ?_ | refine iRetN ?_ | refine iDrop ?_ | refine iAsg ?_ | refine iPar ?_ | refine iGNm ?_
  | refine iGTp (by with_unfolding_all rfl) ?_ | refine iGsCons ?_ | refine iGsNil ?_ | refine iGSb ?_ | refine iVar (by with_unfolding_all rfl) ?_ | refine iC ?_ | refine iNil ?_ | refine iCons ?_
  | refine iTup ?_ | refine lenOk (by with_unfolding_all rfl) ?_ | refine iFrz ?_ | refine iLst ?_ | refine frzEnd ?_ | refine frzT ?_ | refine frzL ?_ | refine slT ?_ | refine lstC_t ?_ | refine lstC_l ?_ | refine iOp ?_ | refine iTst ?_ | refine iTru ?_ | refine truB ?_
  | refine iAnd ?_ | refine iOr ?_ | refine iNot ?_ | refine iAndVK ?_ | refine andVT ?_ | refine andVF ?_ | refine andVDT (by decide) ?_ | refine andVDF (by decide) ?_ | refine ifDT (by decide) ?_ | refine ifDF (by decide) ?_ | refine iNotV ?_ | refine iIf ?_ | refine ifT ?_ | refine ifF ?_ | refine iCall ?_ | refine iCB ?_ | refine iMt ?_
  | refine iSl ?_ | refine iP ?_ | refine iNoP ?_ | refine iStar ?_ | refine iDGet ?_ | refine iIsi ?_ | refine iMatch ?_ | refine iFor ?_ | refine iISq ?_
  | refine rIx_i (by with_unfolding_all rfl) (by with_unfolding_all rfl) ?_ | refine rIx_i (by with_unfolding_all rfl) atI_0 ?_ | refine eq_strT ?_ | refine eq_strF (by with_unfolding_all rfl) ?_ | refine ne_strT ?_ | refine ne_strF (by with_unfolding_all rfl) ?_ | refine eq_ii ?_ | refine ne_ii ?_
  | refine caT ?_ | refine caF (by with_unfolding_all rfl) ?_ | refine caN ?_ | refine add_ii ?_ | refine int0 ?_ | refine len_t ?_ | refine len_l ?_ | refine tupC_t ?_ | refine tupC_l ?_
  | refine intC_i ?_ | refine intC_b ?_ | refine max2_ii ?_ | refine min2_ii ?_ | refine keyP_s ?_ | refine keyP_i ?_ | refine iIRg1 ?_ | refine iIRg2 ?_ | refine iIEnT ?_ | refine add_llb (by with_unfolding_all rfl) ?_ | refine add_ttb (by with_unfolding_all rfl) ?_
  | refine inn_T (by with_unfolding_all rfl) (by decide +kernel) (by decide +kernel) (by decide +kernel) ?_ | refine inn_F (by with_unfolding_all rfl) (by decide +kernel) (by decide +kernel) (by decide +kernel) ?_
  | refine isi_T (by with_unfolding_all rfl) (by decide +kernel) ?_ | refine isi_F (by with_unfolding_all rfl) (by decide +kernel) ?_ | refine iPsC ?_ | refine iPsN ?_)
def nxD (w : Wk) : D := .lst ((nxW w).map sgD)
def RX (n : Nat) : List D → D → Prop := fun ds d => ∃ w, ds = [toD w] ∧ okW 999 w ∧ zW w ≤ 10000 ∧ dpW w ≤ n ∧ d = nxD w
theorem rx_at {n : Nat} {w : Wk} (h1 : okW 999 w) (h2 : zW w ≤ 10000) (h3 : dpW w ≤ n) : RX n [toD w] (nxD w) := ⟨w, rfl, h1, h2, h3, rfl⟩
theorem many_pure {a : Int} {ρ : DSt} {i : Nat} (h : (ρ.set 2 (some (.int (a + (i : Nat))))).length = 6) (h2 : sl (ρ.set 2 (some (.int (a + (i : Nat))))) 2 = some (.int (a + (i : Nat)))) :
    PureE (dTup (dCons (dC (.str "many")) (dCons (dVar 2) dNil))) (.one 2) ρ (.int (a + (i : Nat))) (sgD (.many (a + (i : Nat)))) :=
  ⟨_, rfl, fun G K hK => by
    refine iTup (iCons (iC (iCons (iVar h2 (iNil ?_)))))
    exact lenOk rfl (hK G (Grow.refl G))⟩
theorem law_next_rd {n : Nat} (hn : n + 1 ≤ 56) : ∀ ds G Q E, pSp (RX (n + 1)) ds G Q E → r_law_next (pSp (RX n)) { nx := fun _ G' => Q .non G', rt := Q } (startD 6 ds) G := by
  rintro ds G Q E ⟨d, ⟨w, rfl, ho, hz, hd, rfl⟩, hq⟩
  unfold r_law_next
  cases w with
  | tick m =>
    rw [toD]; walk_at "ds"
    have e := hq G (Grow.refl G)
    simp only [nxD, nxW, List.map_cons, List.map_nil, sgD] at e
    exact e
  | sme a b t =>
    rw [okW] at ho
    cases t with
    | true =>
      rw [toD]; walk_at "ds"
      refine lcF (List.range (b + 1 - a).toNat) (fun i => .int (a + (i : Nat))) (fun i => sgD (.many (a + (i : Nat)))) ?_ ?_ ?_ ?_
      · intro P hP
        walk_at "ds"
        exact ⟨by omega, hP _ _ (fun _ => trivial) (Grow.refl _)⟩
      · rw [List.length_range, sizeL]; omega
      · exact fun i hi => many_pure rfl rfl
      · intro G' g
        have e := hq G' g
        simp only [nxD, nxW, if_true, manyS, List.map_map] at e
        exact e
    | false =>
      rw [toD]; walk_at "ds"
      refine iDisp fun p hp => ?_
      walk_at "ds"
      refine dispEnd updG_same (by with_unfolding_all rfl) (by rfl) ?_
      walk_at "ds"
      refine dctP_i updG_same ?_
      walk_at "ds"
      refine getK_i (d := .str "tick") (by simp [getK, mergeD, putD]) ?_
      walk_at "ds"
      have e := fun o o' => hq _ (Grow.upd2 (o := o) hp (Grow.upd (o := o') hp))
      simp only [nxD, nxW, Bool.false_eq_true, if_false, List.map_append] at e
      by_cases hb : 0 < b
      · rw [show (if decide (0 < b) = true then (1 : Int) else 0) = 1 from by simp [hb]]
        rw [if_pos hb] at e
        refine mul_li (by decide) (by decide) (by decide) ?_
        walk_at "ds"
        by_cases ha : a = 0
        · rw [show (if decide (a = 0) = true then (1 : Int) else 0) = 1 from by simp [ha]]
          rw [if_pos ha] at e
          refine mul_li (by decide) (by decide) (by decide) ?_
          walk_at "ds"
          exact e _ _
        · rw [show (if decide (a = 0) = true then (1 : Int) else 0) = 0 from by simp [ha]]
          rw [if_neg ha] at e
          refine mul_li (by decide) (by decide) (by decide) ?_
          walk_at "ds"
          exact e _ _
      · rw [show (if decide (0 < b) = true then (1 : Int) else 0) = 0 from by simp [hb]]
        rw [if_neg hb] at e
        refine mul_li (by decide) (by decide) (by decide) ?_
        walk_at "ds"
        by_cases ha : a = 0
        · rw [show (if decide (a = 0) = true then (1 : Int) else 0) = 1 from by simp [ha]]
          rw [if_pos ha] at e
          refine mul_li (by decide) (by decide) (by decide) ?_
          walk_at "ds"
          exact e _ _
        · rw [show (if decide (a = 0) = true then (1 : Int) else 0) = 0 from by simp [ha]]
          rw [if_neg ha] at e
          refine mul_li (by decide) (by decide) (by decide) ?_
          walk_at "ds"
          exact e _ _
  | lop a b t w =>
    rw [okW] at ho
    cases t with
    | true =>
      rw [toD]; walk_at "ds"
      refine lcF (List.range (b + 1 - a).toNat) (fun i => .int (a + (i : Nat))) (fun i => sgD (.many (a + (i : Nat)))) ?_ ?_ ?_ ?_
      · intro P hP
        walk_at "ds"
        exact ⟨by omega, hP _ _ (fun _ => trivial) (Grow.refl _)⟩
      · rw [List.length_range, sizeL]; omega
      · exact fun i hi => many_pure rfl rfl
      · intro G' g
        have e := hq G' g
        simp only [nxD, nxW, if_true, manyS, List.map_map] at e
        exact e
    | false =>
      rw [toD]; walk_at "ds"
      refine iDisp fun p hp => ?_
      walk_at "ds"
      refine dispEnd updG_same (by with_unfolding_all rfl) (by rfl) ?_
      walk_at "ds"
      refine dctP_i updG_same ?_
      walk_at "ds"
      refine getK_i (d := .str "more") (by simp [getK, mergeD, putD]) ?_
      walk_at "ds"
      have e := fun o o' => hq _ (Grow.upd2 (o := o) hp (Grow.upd (o := o') hp))
      simp only [nxD, nxW, Bool.false_eq_true, if_false, List.map_append] at e
      by_cases hb : 0 < b
      · rw [show (if decide (0 < b) = true then (1 : Int) else 0) = 1 from by simp [hb]]
        rw [if_pos hb] at e
        refine mul_li (by decide) (by decide) (by decide) ?_
        walk_at "ds"
        by_cases ha : a = 0
        · rw [show (if decide (a = 0) = true then (1 : Int) else 0) = 1 from by simp [ha]]
          rw [if_pos ha] at e
          refine mul_li (by decide) (by decide) (by decide) ?_
          walk_at "ds"
          exact e _ _
        · rw [show (if decide (a = 0) = true then (1 : Int) else 0) = 0 from by simp [ha]]
          rw [if_neg ha] at e
          refine mul_li (by decide) (by decide) (by decide) ?_
          walk_at "ds"
          exact e _ _
      · rw [show (if decide (0 < b) = true then (1 : Int) else 0) = 0 from by simp [hb]]
        rw [if_neg hb] at e
        refine mul_li (by decide) (by decide) (by decide) ?_
        walk_at "ds"
        by_cases ha : a = 0
        · rw [show (if decide (a = 0) = true then (1 : Int) else 0) = 1 from by simp [ha]]
          rw [if_pos ha] at e
          refine mul_li (by decide) (by decide) (by decide) ?_
          walk_at "ds"
          exact e _ _
        · rw [show (if decide (a = 0) = true then (1 : Int) else 0) = 0 from by simp [ha]]
          rw [if_neg ha] at e
          refine mul_li (by decide) (by decide) (by decide) ?_
          walk_at "ds"
          exact e _ _
  | eit ws =>
    rw [zW] at hz
    have hl := len_zWs ws
    rw [toD]; walk_at "ds"
    refine lcF (List.range ws.length) (fun i => .int (0 + (i : Nat))) (fun i => sgD (.way i)) ?_ (by rw [sizeL, List.length_range]; omega) ?_ ?_
    · intro P hP
      walk_at "ds"
      refine ⟨by omega, by rw [toDs_len]; omega, ?_⟩
      rw [toDs_len]
      exact hP _ _ (fun _ => trivial) (Grow.refl _)
    · intro i hi
      refine ⟨_, rfl, fun G1 K hK => ?_⟩
      walk_at "ds"
      have e := hK G1 (Grow.refl _)
      rw [sgD] at e
      rw [Int.zero_add]
      exact e
    · intro G' g
      have e := hq G' g
      simp only [nxD, nxW, List.map_map] at e
      exact e
  | bes a b =>
    rw [okW] at ho
    rw [zW] at hz
    rw [dpW] at hd
    have la := nx_size ho.1 (by omega)
    have lb := nx_size ho.2 (by omega)
    rw [toD]; walk_at "ds"
    refine lcF (nxW a) sgD (fun s => sgD (.left s)) ?_ (by rw [sizeL]; omega) ?_ ?_
    · intro P hP
      walk_at "ds"
      refine ⟨_, rx_at ho.1 (by omega) (by omega), fun G1 g1 => ?_⟩
      exact hP _ _ (fun _ => trivial) g1
    · intro s hs
      refine ⟨_, rfl, fun G1 K hK => ?_⟩
      walk_at "ds"
      have e := hK G1 (Grow.refl _)
      rw [sgD] at e
      exact e
    intro G1 g1
    walk_at "ds"
    refine lcF (nxW b) sgD (fun s => sgD (.right s)) ?_ (by rw [sizeL]; omega) ?_ ?_
    · intro P hP
      walk_at "ds"
      refine ⟨_, rx_at ho.2 (by omega) (by omega), fun G1 g1 => ?_⟩
      exact hP _ _ (fun _ => trivial) g1
    · intro s hs
      refine ⟨_, rfl, fun G1 K hK => ?_⟩
      walk_at "ds"
      have e := hK G1 (Grow.refl _)
      rw [sgD] at e
      exact e
    intro G2 g2
    walk_at "ds"
    refine add_ll (by rw [List.length_map, List.length_map, sizeL]; omega) ?_
    walk_at "ds"
    have e := hq G2 (g1.trans g2)
    simp only [nxD, nxW, List.map_append, List.map_map] at e
    exact e
  | row ws =>
    rw [okW] at ho
    rw [zW] at hz
    rw [dpW] at hd
    cases ws with
    | nil =>
      simp only [toD, toDs]
      walk_at "ds"
      refine ne_tt (okD_of (by decide +kernel) (by decide +kernel)) (okD_of (by decide +kernel) (by decide +kernel)) ?_
      rw [show eqvD (.tup []) (.tup []) = true from by decide +kernel]
      refine ifF ?_
      walk_at "ds"
      have e := hq G (Grow.refl G)
      simp only [nxD, nxW, nxWs, List.map_nil] at e
      exact e
    | cons w ws =>
      rw [okWs] at ho
      rw [zWs] at hz
      rw [dpWs] at hd
      have hk : okD (.tup (toDs (w :: ws))) := okD_of (by rw [smD]; exact sm_toDs (B := 999) (by decide) _ (by rw [okWs]; exact ho)) (by rw [depD, dep_toDs, dpWs]; omega)
      rw [toD]
      walk_at "ds"
      refine ne_tt hk (okD_of (by decide +kernel) (by decide +kernel)) ?_
      rw [show eqvD (.tup (toDs (w :: ws))) (.tup []) = false from by simp [toDs, eqvD, eqvDs]]
      refine ifT ?_
      walk_at "ds"
      refine ⟨_, rx_at ho.1 (by omega) (by omega), fun G1 g1 => ?_⟩
      have e := hq G1 g1
      simp only [nxD, nxW, nxWs] at e
      exact e
end K17

namespace K17
open PySem L2 Dl 
local macro_rules | `(tactic| walk_at "ds") => `(tactic| repeat' with_reducible first
  | refine iSeq ?_ | refine iNext ?_ | refine iIfS ?_ | refine iRet ?_ | refine iRetN ?_ | refine iDrop ?_ | refine iAsg ?_ | refine iPar ?_ | refine iGNm ?_
  | refine iGTp (by with_unfolding_all rfl) ?_ | refine iGsCons ?_ | refine iGsNil ?_ | refine iGSb ?_ | refine iVar (by with_unfolding_all rfl) ?_ | refine iC ?_ | refine iNil ?_ | refine iCons ?_
  | refine iTup ?_ | refine lenOk (by with_unfolding_all rfl) ?_ | refine iFrz ?_ | refine iLst ?_ | refine frzEnd ?_ | refine frzT ?_ | refine frzL ?_ | refine slT ?_ | refine lstC_t ?_ | refine lstC_l ?_ | refine iOp ?_ | refine iTst ?_ | refine iTru ?_ | refine truB ?_
  | refine iAnd ?_ | refine iOr ?_ | refine iNot ?_ | refine iAndVK ?_ | refine andVT ?_ | refine andVF ?_ | refine andVDT (by decide) ?_ | refine andVDF (by decide) ?_ | refine ifDT (by decide) ?_ | refine ifDF (by decide) ?_ | refine iNotV ?_ | refine iIf ?_ | refine ifT ?_ | refine ifF ?_ | refine iCall ?_ | refine iCB ?_ | refine iMt ?_
  | refine iSl ?_ | refine iP ?_ | refine iNoP ?_ | refine iStar ?_ | refine iDGet ?_ | refine iIsi ?_ | refine iMatch ?_ | refine iFor ?_ | refine iISq ?_
  | refine rIx_i (by with_unfolding_all rfl) (by with_unfolding_all rfl) ?_ | refine rIx_i (by with_unfolding_all rfl) atI_0 ?_ | refine eq_strT ?_ | refine eq_strF (by with_unfolding_all rfl) ?_ | refine ne_strT ?_ | refine ne_strF (by with_unfolding_all rfl) ?_ | refine eq_ii ?_ | refine ne_ii ?_
  | refine caT ?_ | refine caF (by with_unfolding_all rfl) ?_ | refine caN ?_ | refine add_ii ?_ | refine int0 ?_ | refine len_t ?_ | refine len_l ?_ | refine tupC_t ?_ | refine tupC_l ?_
  | refine intC_i ?_ | refine intC_b ?_ | refine max2_ii ?_ | refine min2_ii ?_ | refine keyP_s ?_ | refine keyP_i ?_ | refine iIRg1 ?_ | refine iIRg2 ?_ | refine iIEnT ?_ | refine add_llb (by with_unfolding_all rfl) ?_ | refine add_ttb (by with_unfolding_all rfl) ?_
  | refine inn_T (by with_unfolding_all rfl) (by decide +kernel) (by decide +kernel) (by decide +kernel) ?_ | refine inn_F (by with_unfolding_all rfl) (by decide +kernel) (by decide +kernel) (by decide +kernel) ?_
  | refine isi_T (by with_unfolding_all rfl) (by decide +kernel) ?_ | refine isi_F (by with_unfolding_all rfl) (by decide +kernel) ?_ | refine iPsC ?_ | refine iPsN ?_)
def RH (n : Nat) : List D → D → Prop := fun ds d => ∃ w s, ds = [toD w, sgD s] ∧ okW 999 w ∧ zW w ≤ 10000 ∧ dpW w ≤ n ∧ s ∈ nxW w ∧ d = toD (behW w s)
theorem rh_at {n : Nat} {w : Wk} {s : Sg} (h1 : okW 999 w) (h2 : zW w ≤ 10000) (h3 : dpW w ≤ n) (h4 : s ∈ nxW w) : RH n [toD w, sgD s] (toD (behW w s)) := ⟨w, s, rfl, h1, h2, h3, h4, rfl⟩
theorem okEnd : okD (.str "end") := okD_of (by decide +kernel) (by decide +kernel)
theorem law_behind_rd {n : Nat} (hn : n + 1 ≤ 56) : ∀ ds G Q E, pSp (RH (n + 1)) ds G Q E → r_law_behind (pSp (RH n)) { nx := fun _ G' => Q .non G', rt := Q } (startD 4 ds) G := by
  rintro ds G Q E ⟨d, ⟨w, s, rfl, ho, hz, hd, hs, rfl⟩, hq⟩
  unfold r_law_behind
  have hok := nx_ok (B := 999) (by decide) w ho (by omega) s hs
  cases w with
  | tick m =>
    rw [nxW, List.mem_singleton] at hs
    subst hs
    rw [okW] at ho
    have e := hq G (Grow.refl G)
    simp only [behW, tkW] at e
    simp only [toD, sgD]; walk_at "ds"
    refine ifD (fun h => ?_) (fun h => ?_)
    · rw [if_pos h, toD] at e
      walk_at "ds"
      exact e
    · rw [if_neg h, toD, toDs] at e
      walk_at "ds"
      exact e
  | sme a b t =>
    rw [nxW] at hs
    rw [okW] at ho
    cases t with
    | true =>
      rw [if_pos rfl] at hs
      obtain ⟨m, rfl, h1, h2⟩ := manyS_mem hs
      have e := hq G (Grow.refl G)
      simp only [behW, tkW] at e
      have hk := okD_of hok.sm (by have := hok.dp; omega)
      simp only [toD, sgD] at hk ⊢; walk_at "ds"
      refine eq_ts hk okEnd ?_
      walk_at "ds"
      refine ifD (fun h => ?_) (fun h => ?_)
      · rw [if_pos h, toD] at e
        walk_at "ds"
        exact e
      · rw [if_neg h, toD, toDs] at e
        walk_at "ds"
        exact e
    | false =>
      rw [if_neg (by decide)] at hs
      have e := hq G (Grow.refl G)
      rcases List.mem_append.mp hs with q | q
      · split at q
        · rw [List.mem_singleton] at q; subst q
          simp only [behW] at e
          simp only [toD, sgD] at e ⊢; walk_at "ds"
          exact e
        · cases q
      · split at q
        · rw [List.mem_singleton] at q; subst q
          simp only [behW] at e
          simp only [toD, toDs, sgD] at e ⊢; walk_at "ds"
          exact e
        · cases q
  | lop a b t w =>
    rw [nxW] at hs
    rw [okW] at ho
    cases t with
    | true =>
      rw [if_pos rfl] at hs
      obtain ⟨m, rfl, h1, h2⟩ := manyS_mem hs
      have e := hq G (Grow.refl G)
      simp only [behW] at e
      have hk := okD_of hok.sm (by have := hok.dp; omega)
      simp only [toD, sgD] at hk e ⊢; walk_at "ds"
      refine eq_ts hk okEnd ?_
      walk_at "ds"
      refine mul_ti (by omega) (by omega) (by simp) ?_
      walk_at "ds"
      rw [rep_one, ← toDs_rep]
      exact e
    | false =>
      rw [if_neg (by decide)] at hs
      have e := hq G (Grow.refl G)
      rcases List.mem_append.mp hs with q | q
      · split at q
        · rw [List.mem_singleton] at q; subst q
          simp only [behW] at e
          simp only [toD, toDs, sgD] at e ⊢; walk_at "ds"
          exact e
        · cases q
      · split at q
        · rw [List.mem_singleton] at q; subst q
          simp only [behW] at e
          simp only [toD, toDs, sgD] at e ⊢; walk_at "ds"
          exact e
        · cases q
  | eit ws =>
    rw [nxW] at hs
    obtain ⟨i, hi, rfl⟩ := List.mem_map.mp hs
    rw [List.mem_range] at hi
    have e := hq G (Grow.refl G)
    simp only [behW] at e
    rw [show ws.getD i (.row []) = ws[i] from by simp [List.getD, hi]] at e
    simp only [toD, sgD]; walk_at "ds"
    refine rIx_i rfl (atI_nat (x := toD ws[i]) (by rw [toDs_map]; simp [hi])) ?_
    exact e
  | bes a b =>
    rw [okW] at ho
    rw [zW] at hz
    rw [dpW] at hd
    rw [nxW] at hs
    rcases List.mem_append.mp hs with q | q
    · obtain ⟨t, ht, rfl⟩ := List.mem_map.mp q
      simp only [behW] at hq
      simp only [toD, sgD] at hq ⊢; walk_at "ds"
      refine ⟨_, rh_at ho.1 (by omega) (by omega) ht, fun G1 g1 => ?_⟩
      walk_at "ds"
      exact hq G1 g1
    · obtain ⟨t, ht, rfl⟩ := List.mem_map.mp q
      simp only [behW] at hq
      simp only [toD, sgD] at hq ⊢; walk_at "ds"
      refine ⟨_, rh_at ho.2 (by omega) (by omega) ht, fun G1 g1 => ?_⟩
      walk_at "ds"
      exact hq G1 g1
  | row ws =>
    rw [okW] at ho
    rw [zW] at hz
    rw [dpW] at hd
    rw [nxW] at hs
    cases ws with
    | nil => simp [nxWs] at hs
    | cons w ws =>
      rw [okWs] at ho
      rw [zWs] at hz
      rw [dpWs] at hd
      rw [nxWs] at hs
      simp only [behW, behWs] at hq
      simp only [toD, toDs] at hq ⊢; walk_at "ds"
      refine ⟨_, rh_at ho.1 (by omega) (by omega) hs, fun G1 g1 => ?_⟩
      walk_at "ds"
      rw [cut1]
      refine add_tt (by rw [List.length_singleton, toDs_len, sizeL]; have := len_zWs ws; omega) ?_
      walk_at "ds"
      exact hq G1 g1
def RA : List D → D → Prop := fun ds d => ∃ w s, ds = [toD w, sgD s] ∧ okW 999 w ∧ zW w ≤ 10000 ∧ dpW w ≤ 50 ∧ s ∈ nxW w ∧ d = toD (tidyW (behW w s))
theorem law_after_rd : ∀ ds G Q E, pSp RA ds G Q E → r_law_after (pSp (RT 60)) (pSp (RH 56)) { nx := fun _ G' => Q .non G', rt := Q } (startD 2 ds) G := by
  rintro ds G Q E ⟨d, ⟨w, s, rfl, ho, hz, hd, hs, rfl⟩, hq⟩
  unfold r_law_after
  have hb := beh_ok (B := 999) w s ho hs
  walk_at "ds"
  refine ⟨_, rh_at ho hz (by omega) hs, fun G1 g1 => ?_⟩
  walk_at "ds"
  refine ⟨_, rt_at hb.ok (by have := hb.z; omega) (by have := hb.dp; omega), fun G2 g2 => ?_⟩
  exact hq G2 (g1.trans g2)
def spEnd (n : Nat) : DSp := fun ds G Q _ => ∃ w b, ds = [toD w, .bl b] ∧ okW 999 w ∧ zW w ≤ 10000 ∧ dpW w ≤ n ∧ ∀ (i : Int) G', Grow G G' → Q (.int i) G'
theorem law_end_rd {n : Nat} : ∀ ds G Q E, spEnd (n + 1) ds G Q E → r_law_end (spEnd n) { nx := fun _ G' => Q .non G', rt := Q } (startD 6 ds) G := by
  rintro ds G Q E ⟨w, b, rfl, ho, hz, hd, hq⟩
  unfold r_law_end
  have lst : ∀ ws : List Wk, okWs 999 ws → zWs ws ≤ 10000 → dpWs ws ≤ n → ∀ (ρ : DSt) (K : DK), ρ = [some (.tup [.str "row", .tup (toDs ws)]), some (.bl b), some (.str "row"), none, none, none] ∨ ρ = [some (.tup [.str "either", .tup (toDs ws)]), some (.bl b), some (.str "either"), none, none, none] →
      (∀ l G', (∀ y ∈ l, ∃ i : Int, y = .int i) → l.length = ws.length → Grow G G' → K (.lst l) G') →
      dLc (iSq (dOp rIx (dVar 0) (dC (.int 1)))) (.one 5) dYes (dCall (spEnd n) (dCons (dVar 5) (dCons (dVar 1) dNil))) [5] ρ G (frzK K) := by
    intro ws ho hz hd ρ K hρ hK
    refine lcP ws toD (fun y => ∃ i : Int, y = .int i) ?_ (by rw [sizeL]; have := len_zWs ws; omega) ?_ hK
    · intro P hP
      rcases hρ with rfl | rfl
      · walk_at "ds"; rw [← toDs_map] at hP; exact hP _ _ (fun _ => trivial) (Grow.refl _)
      · walk_at "ds"; rw [← toDs_map] at hP; exact hP _ _ (fun _ => trivial) (Grow.refl _)
    · intro w hw
      have h1 := zWs_mem hw
      have h2 := dpWs_mem hw
      refine ⟨_, rfl, fun G1 K hK => ?_⟩
      rcases hρ with rfl | rfl
      · walk_at "ds"; exact ⟨w, b, rfl, okWs_iff.mp ho w hw, by omega, by omega, fun i G' g => hK _ _ ⟨i, rfl⟩ g⟩
      · walk_at "ds"; exact ⟨w, b, rfl, okWs_iff.mp ho w hw, by omega, by omega, fun i G' g => hK _ _ ⟨i, rfl⟩ g⟩
  cases w with
  | tick m => rw [toD]; walk_at "ds"; exact hq _ _ (Grow.refl _)
  | sme x y t =>
    rw [toD]; walk_at "ds"
    cases b with
    | true => walk_at "ds"; exact hq _ _ (Grow.refl _)
    | false => walk_at "ds"; exact hq _ _ (Grow.refl _)
  | lop x y t w =>
    rw [okW] at ho
    rw [zW] at hz
    rw [dpW] at hd
    have hm : 1 * (zW w + 1) ≤ (y.toNat + 1) * (zW w + 1) := Nat.mul_le_mul (by omega) (by omega)
    rw [toD]; walk_at "ds"
    cases b with
    | true =>
      walk_at "ds"
      refine ⟨w, true, rfl, ho.2.2.2, by omega, by omega, fun i G1 g1 => ?_⟩
      refine mul_ii (.inl ⟨by omega, by omega⟩) ?_
      exact hq _ _ g1
    | false =>
      walk_at "ds"
      refine ⟨w, false, rfl, ho.2.2.2, by omega, by omega, fun i G1 g1 => ?_⟩
      refine mul_ii (.inl ⟨by omega, by omega⟩) ?_
      exact hq _ _ g1
  | bes x y =>
    rw [okW] at ho
    rw [zW] at hz
    rw [dpW] at hd
    rw [toD]; walk_at "ds"
    refine ⟨x, b, rfl, ho.1, by omega, by omega, fun i G1 g1 => ?_⟩
    walk_at "ds"
    refine ⟨y, b, rfl, ho.2, by omega, by omega, fun j G2 g2 => ?_⟩
    walk_at "ds"
    exact hq _ _ (g1.trans g2)
  | row ws =>
    rw [okW] at ho
    rw [zW] at hz
    rw [dpW] at hd
    rw [toD]; walk_at "ds"
    refine lst ws ho (by omega) (by omega) _ _ (.inl rfl) ?_
    intro l G1 hl hn g1
    walk_at "ds"
    obtain ⟨ns, e1, e2⟩ := intsD_all hl
    show intsP G1 (.lst l) _
    unfold intsP lsOf
    dsimp only
    rw [e1]
    exact hq _ _ g1
  | eit ws =>
    rw [okW] at ho
    rw [zW] at hz
    rw [dpW] at hd
    have hne : 0 < ws.length := List.length_pos_iff.mpr ho.1
    rw [toD]; walk_at "ds"
    refine lst ws ho.2 (by omega) (by omega) _ _ (.inr rfl) ?_
    intro l G1 hl hn g1
    obtain ⟨ns, e1, e2⟩ := intsD_all hl
    cases b with
    | true =>
      walk_at "ds"
      show intsP G1 (.lst l) _
      unfold intsP lsOf
      dsimp only
      rw [e1]
      exact ⟨by omega, fun m _ _ => hq _ _ g1⟩
    | false =>
      walk_at "ds"
      show intsP G1 (.lst l) _
      unfold intsP lsOf
      dsimp only
      rw [e1]
      exact ⟨by omega, fun m _ _ => hq _ _ g1⟩
end K17

namespace K17
open PySem L2 Dl 
local macro_rules | `(tactic| walk_at "ds") => `(tactic| repeat' with_reducible first
  | refine iSeq ?_ | refine iNext ?_ | refine iIfS ?_ | refine iRet ?_ | refine iRetN ?_ | refine iDrop ?_ | refine iAsg ?_ | refine iPar ?_ | refine iGNm ?_
  | refine iGTp (by with_unfolding_all rfl) ?_ | refine iGsCons ?_ | refine iGsNil ?_ | refine iGSb ?_ | refine iVar (by with_unfolding_all rfl) ?_ | refine iC ?_ | refine iNil ?_ | refine iCons ?_
  | refine iTup ?_ | refine lenOk (by with_unfolding_all rfl) ?_ | refine iFrz ?_ | refine iLst ?_ | refine frzEnd ?_ | refine frzT ?_ | refine frzL ?_ | refine slT ?_ | refine lstC_t ?_ | refine lstC_l ?_ | refine iOp ?_ | refine iTst ?_ | refine iTru ?_ | refine truB ?_
  | refine iAnd ?_ | refine iOr ?_ | refine iNot ?_ | refine iAndVK ?_ | refine andVT ?_ | refine andVF ?_ | refine andVDT (by decide) ?_ | refine andVDF (by decide) ?_ | refine ifDT (by decide) ?_ | refine ifDF (by decide) ?_ | refine iNotV ?_ | refine iIf ?_ | refine ifT ?_ | refine ifF ?_ | refine iCall ?_ | refine iCB ?_ | refine iMt ?_
  | refine iSl ?_ | refine iP ?_ | refine iNoP ?_ | refine iStar ?_ | refine iDGet ?_ | refine iIsi ?_ | refine iMatch ?_ | refine iFor ?_ | refine iISq ?_
  | refine rIx_i (by with_unfolding_all rfl) (by with_unfolding_all rfl) ?_ | refine rIx_i (by with_unfolding_all rfl) atI_0 ?_ | refine eq_strT ?_ | refine eq_strF (by with_unfolding_all rfl) ?_ | refine ne_strT ?_ | refine ne_strF (by with_unfolding_all rfl) ?_ | refine eq_ii ?_ | refine ne_ii ?_
  | refine caT ?_ | refine caF (by with_unfolding_all rfl) ?_ | refine caN ?_ | refine add_ii ?_ | refine int0 ?_ | refine len_t ?_ | refine len_l ?_ | refine tupC_t ?_ | refine tupC_l ?_
  | refine intC_i ?_ | refine intC_b ?_ | refine max2_ii ?_ | refine min2_ii ?_ | refine keyP_s ?_ | refine keyP_i ?_ | refine iIRg1 ?_ | refine iIRg2 ?_ | refine iIEnT ?_ | refine add_llb (by with_unfolding_all rfl) ?_ | refine add_ttb (by with_unfolding_all rfl) ?_
  | refine inn_T (by with_unfolding_all rfl) (by decide +kernel) (by decide +kernel) (by decide +kernel) ?_ | refine inn_F (by with_unfolding_all rfl) (by decide +kernel) (by decide +kernel) (by decide +kernel) ?_
  | refine isi_T (by with_unfolding_all rfl) (by decide +kernel) ?_ | refine isi_F (by with_unfolding_all rfl) (by decide +kernel) ?_ | refine iPsC ?_ | refine iPsN ?_)
def feedKv (cs : List Int) (at_ lf tn : Int) : List (Key × D) := [(.inr "cells", .lst (cs.map D.int)), (.inr "at", .int at_), (.inr "left", .int lf), (.inr "turn", .int tn)]
def FeedOk (G : GH) (a : Addr) : Prop := ∃ cs at_ lf tn, G a = some (.dct (feedKv cs at_ lf tn))
def KeepX (a : Addr) (G G' : GH) : Prop := ∀ b o, b ≠ a → G b = some o → G' b = some o
theorem KeepX.refl (a : Addr) (G : GH) : KeepX a G G := fun _ _ _ h => h
theorem KeepX.trans {a : Addr} {G G1 G2 : GH} (h : KeepX a G G1) (k : KeepX a G1 G2) : KeepX a G G2 := fun b o n e => k b o n (h b o n e)
theorem KeepX.upd {a : Addr} {G : GH} {o : DO} : KeepX a G (updG G a o) := fun b u n e => by rw [updG_ne n]; exact e
theorem KeepX.of {a : Addr} {G G' : GH} (h : Grow G G') : KeepX a G G' := fun b o _ e => h b o e
theorem FeedOk.grow {a : Addr} {G G' : GH} (h : FeedOk G a) (k : Grow G G') : FeedOk G' a := by
  obtain ⟨c, x, y, z, e⟩ := h
  exact ⟨c, x, y, z, k _ _ e⟩
theorem FeedOk.keep {a b : Addr} {G G' : GH} (h : FeedOk G a) (hn : a ≠ b) (k : KeepX b G G') : FeedOk G' a := by
  obtain ⟨c, x, y, z, e⟩ := h
  exact ⟨c, x, y, z, k _ _ hn e⟩
theorem g_cells {cs : List Int} {x y z : Int} : getK (feedKv cs x y z) (.inr "cells") = some (.lst (cs.map D.int)) := by simp [getK, feedKv]
theorem g_at {cs : List Int} {x y z : Int} : getK (feedKv cs x y z) (.inr "at") = some (.int x) := by simp [getK, feedKv]
theorem g_left {cs : List Int} {x y z : Int} : getK (feedKv cs x y z) (.inr "left") = some (.int y) := by simp [getK, feedKv]
theorem g_turn {cs : List Int} {x y z : Int} : getK (feedKv cs x y z) (.inr "turn") = some (.int z) := by simp [getK, feedKv]
theorem p_at {cs : List Int} {x y z v : Int} : putD (feedKv cs x y z) (.inr "at") (.int v) = feedKv cs v y z := by simp [putD, feedKv]
theorem p_left {cs : List Int} {x y z v : Int} : putD (feedKv cs x y z) (.inr "left") (.int v) = feedKv cs x v z := by simp [putD, feedKv]
theorem p_turn {cs : List Int} {x y z v : Int} : putD (feedKv cs x y z) (.inr "turn") (.int v) = feedKv cs x y v := by simp [putD, feedKv]
theorem sDct_i {a : Addr} {kvs : List (Key × D)} {x : Str} {d : D} {G : GH} {Q : GH → Prop} (e : G a = some (.dct kvs)) (z : kvs.length < sizeLine) (h : Q (updG G a (.dct (putD kvs (.inr x) d)))) : sDct (.ref a) (.str x) d G Q := dctP_i e ⟨z, h⟩
theorem cell_at {cs : List Int} (h : cs ≠ []) (k : Int) : ∃ c : Int, atI (cs.map D.int) (k % (cs.length : Int)) = some (.int c) := by
  have hl : 0 < cs.length := List.length_pos_iff.mpr h
  have h1 := Int.emod_nonneg k (show (cs.length : Int) ≠ 0 by omega)
  have h2 := Int.emod_lt_of_pos k (show (0 : Int) < cs.length by omega)
  obtain ⟨j, hj⟩ : ∃ j : Nat, k % (cs.length : Int) = j := ⟨(k % (cs.length : Int)).toNat, by omega⟩
  rw [hj]
  have hj2 : j < cs.length := by omega
  exact ⟨cs[j], Dl.atI_nat (by simp [hj2])⟩
theorem okCells (cs : List Int) : okD (.lst (cs.map D.int)) := by
  constructor
  · rw [pureD]
    induction cs with
    | nil => simp [pureDs]
    | cons x xs ih => simp [pureDs, pureD, ih]
  · rw [depD]
    have : depDs (cs.map D.int) ≤ 0 := depDs_le (by intro d hd; obtain ⟨i, -, rfl⟩ := List.mem_map.mp hd; simp [depD])
    omega
def spDraw : DSp := fun ds G Q _ => ∃ a m, ds = [.ref a, .int m] ∧ 0 < m ∧ m < 1073741824 ∧ FeedOk G a ∧ ∀ (r : Int) G', 0 ≤ r → r < m → FeedOk G' a → KeepX a G G' → Q (.int r) G'
theorem law_draw_rd : ∀ ds G Q E, spDraw ds G Q E → r_law_draw { nx := fun _ G' => Q .non G', rt := Q } (startD 6 ds) G := by
  rintro ds G Q E ⟨a, m, rfl, hm, hm2, ⟨cs, x, y, z, e⟩, hq⟩
  unfold r_law_draw
  have fin : ∀ (v : Int) (c : List Int) (x y z : Int), KeepX a G (updG G a (.dct (feedKv c x y z))) := fun _ _ _ _ _ => KeepX.upd
  have go : ∀ (v : Int) (c : List Int) (x y z : Int), Q (.int (v % m)) (updG G a (.dct (feedKv c x y z))) := fun v c x y z =>
    hq _ _ (Int.emod_nonneg _ (by omega)) (Int.emod_lt_of_pos _ hm) ⟨c, x, y, z, updG_same⟩ KeepX.upd
  walk_at "ds"
  refine dctP_i e ?_
  walk_at "ds"
  refine getK_i g_turn ?_
  walk_at "ds"
  refine sDct_i e (by show 4 < sizeLine; decide) ?_
  rw [p_turn]
  walk_at "ds"
  refine dctP_i updG_same ?_
  walk_at "ds"
  refine getK_i g_cells ?_
  walk_at "ds"
  refine eq_ll (okCells cs) (okCells []) ?_
  cases cs with
  | nil =>
    rw [show eqvD (.lst (([] : List Int).map D.int)) (.lst []) = true from by decide +kernel]
    refine ifT ?_
    walk_at "ds"
    refine dctP_i updG_same ?_
    walk_at "ds"
    refine getK_i g_turn ?_
    walk_at "ds"
    refine mul_ii (.inr ⟨by decide, by decide⟩) ?_
    walk_at "ds"
    refine int2 ⟨by decide, by decide⟩ ?_
    walk_at "ds"
    refine int2 hm ?_
    exact go _ _ _ _ _
  | cons c0 cs0 =>
    have hne : c0 :: cs0 ≠ [] := by simp
    generalize c0 :: cs0 = cs at hne e
    rw [show eqvD (.lst (cs.map D.int)) (.lst []) = false from by cases cs with
      | nil => exact absurd rfl hne
      | cons => simp [eqvD, eqvDs]]
    refine ifF ?_
    walk_at "ds"
    refine dctP_i updG_same ?_
    walk_at "ds"
    refine getK_i g_left ?_
    walk_at "ds"
    refine ifD (fun h => ?_) (fun h => ?_)
    · walk_at "ds"
      refine dctP_i updG_same ?_
      walk_at "ds"
      refine getK_i g_left ?_
      walk_at "ds"
      refine int2 hm ?_
      walk_at "ds"
      refine dctP_i updG_same ?_
      walk_at "ds"
      refine getK_i g_left ?_
      walk_at "ds"
      refine int2 ⟨hm, hm2⟩ ?_
      walk_at "ds"
      refine sDct_i updG_same (by show 4 < sizeLine; decide) ?_
      rw [p_left, updG_updG]
      walk_at "ds"
      exact go _ _ _ _ _
    · walk_at "ds"
      refine dctP_i updG_same ?_
      walk_at "ds"
      refine getK_i g_at ?_
      walk_at "ds"
      refine sDct_i updG_same (by show 4 < sizeLine; decide) ?_
      rw [p_at, updG_updG]
      walk_at "ds"
      refine dctP_i updG_same ?_
      walk_at "ds"
      refine getK_i g_cells ?_
      walk_at "ds"
      refine dctP_i updG_same ?_
      walk_at "ds"
      refine getK_i g_cells ?_
      walk_at "ds"
      have hl : 0 < cs.length := List.length_pos_iff.mpr hne
      refine int2 (by rw [List.length_map]; omega) ?_
      rw [List.length_map]
      obtain ⟨c, hc⟩ := cell_at hne x
      refine rIx_i rfl hc ?_
      walk_at "ds"
      refine int2 ⟨by decide, by decide, by decide⟩ ?_
      walk_at "ds"
      have mix : ∀ K : Prop, K → K := fun _ h => h
      have tail : ∀ (ρ : DSt) (G1 : GH), ρ = [some (.ref a), some (.int m), none, some (.int x), some (.int c), none] → G1 = updG G a (.dct (feedKv cs (x + 1) y (z + 1))) →
          (dSeq (dAsg (dOp rMod (dCB rIntC (dCons (dOp rAdd (dOp rAdd (dOp rMod (dCB rIntC (dCons (dVar 4) dNil)) (dC (.int 1000003097))) (dOp rMul (dC (.int 97381)) (dDGet (dVar 0) (dC (.str "turn"))))) (dC (.int 811))) dNil)) (dC (.int 2147483563))) (gNm 5)) (dSeq (dAsg (dOp rMod (dCB rIntC (dCons (dOp rAdd (dOp rAdd (dOp rPow (dVar 5) (dC (.int 3))) (dOp rMul (dC (.int 7401211)) (dDGet (dVar 0) (dC (.str "turn"))))) (dC (.int 443))) dNil)) (dC (.int 2147483489))) (gNm 5)) (dRet (dOp rMod (dCB rIntC (dCons (dOp rFdiv (dOp rMod (dCB rIntC (dCons (dOp rAdd (dOp rPow (dVar 5) (dC (.int 3))) (dOp rMul (dC (.int 397)) (dVar 5))) dNil)) (dC (.int 2147483399))) (dC (.int 32))) dNil)) (dVar 1))))) { nx := fun _ G' => Q .non G', rt := Q } ρ G1 := by
        rintro ρ G1 rfl rfl
        walk_at "ds"
        refine int2 (by decide) ?_
        walk_at "ds"
        refine dctP_i updG_same ?_
        walk_at "ds"
        refine getK_i g_turn ?_
        walk_at "ds"
        refine mul_ii (.inl ⟨by decide, by decide⟩) ?_
        walk_at "ds"
        refine int2 (by decide) ?_
        have pw : ∀ (u k : Int), 0 < k → k < 4294967296 → CPow (u % k) 3 := fun u k h1 h2 => by
          have h3 := Int.emod_nonneg u (show k ≠ 0 by omega)
          have h4 := Int.emod_lt_of_pos u h1
          refine ⟨by decide, by decide, ?_⟩
          have : (2 : Nat) ^ 64 = 18446744073709551616 := by decide
          omega
        walk_at "ds"
        refine int2 (pw _ _ (by decide) (by decide)) ?_
        walk_at "ds"
        refine dctP_i updG_same ?_
        walk_at "ds"
        refine getK_i g_turn ?_
        walk_at "ds"
        refine mul_ii (.inl ⟨by decide, by decide⟩) ?_
        walk_at "ds"
        refine int2 (by decide) ?_
        walk_at "ds"
        refine int2 (pw _ _ (by decide) (by decide)) ?_
        walk_at "ds"
        refine mul_ii (.inl ⟨by decide, by decide⟩) ?_
        walk_at "ds"
        refine int2 (by decide) ?_
        walk_at "ds"
        refine int2 ⟨by decide, by decide⟩ ?_
        walk_at "ds"
        refine int2 hm ?_
        exact go _ _ _ _ _
      refine ifD (fun h => ?_) (fun h => ?_)
      · walk_at "ds"
        refine dctP_i updG_same ?_
        walk_at "ds"
        refine getK_i g_cells ?_
        walk_at "ds"
        refine ifD (fun h => ?_) (fun h => ?_)
        · walk_at "ds"
          refine int2 ⟨hm, hm2⟩ ?_
          walk_at "ds"
          refine sDct_i updG_same (by show 4 < sizeLine; decide) ?_
          rw [p_left, updG_updG]
          walk_at "ds"
          refine int2 hm ?_
          exact go _ _ _ _ _
        · refine iNext ?_
          exact tail _ _ rfl rfl
      · refine ifF ?_
        refine iNext ?_
        exact tail _ _ rfl rfl
end K17

namespace K17
open PySem L2 Dl 
local macro_rules | `(tactic| walk_at "ds") => `(tactic| repeat' with_reducible first
  | refine iSeq ?_ | refine iNext ?_ | refine iIfS ?_ | refine iRet ?_ | refine iRetN ?_ | refine iDrop ?_ | refine iAsg ?_ | refine iPar ?_ | refine iGNm ?_
  | refine iGTp (by with_unfolding_all rfl) ?_ | refine iGsCons ?_ | refine iGsNil ?_ | refine iGSb ?_ | refine iVar (by with_unfolding_all rfl) ?_ | refine iC ?_ | refine iNil ?_ | refine iCons ?_
  | refine iTup ?_ | refine lenOk (by with_unfolding_all rfl) ?_ | refine iFrz ?_ | refine iLst ?_ | refine frzEnd ?_ | refine frzT ?_ | refine frzL ?_ | refine slT ?_ | refine lstC_t ?_ | refine lstC_l ?_ | refine iOp ?_ | refine iTst ?_ | refine iTru ?_ | refine truB ?_
  | refine iAnd ?_ | refine iOr ?_ | refine iNot ?_ | refine iAndVK ?_ | refine andVT ?_ | refine andVF ?_ | refine andVDT (by decide) ?_ | refine andVDF (by decide) ?_ | refine ifDT (by decide) ?_ | refine ifDF (by decide) ?_ | refine iNotV ?_ | refine iIf ?_ | refine ifT ?_ | refine ifF ?_ | refine iCall ?_ | refine iCB ?_ | refine iMt ?_
  | refine iSl ?_ | refine iP ?_ | refine iNoP ?_ | refine iStar ?_ | refine iDGet ?_ | refine iIsi ?_ | refine iMatch ?_ | refine iFor ?_ | refine iISq ?_
  | refine rIx_i (by with_unfolding_all rfl) (by with_unfolding_all rfl) ?_ | refine rIx_i (by with_unfolding_all rfl) atI_0 ?_ | refine eq_strT ?_ | refine eq_strF (by with_unfolding_all rfl) ?_ | refine ne_strT ?_ | refine ne_strF (by with_unfolding_all rfl) ?_ | refine eq_ii ?_ | refine ne_ii ?_
  | refine caT ?_ | refine caF (by with_unfolding_all rfl) ?_ | refine caN ?_ | refine add_ii ?_ | refine int0 ?_ | refine len_t ?_ | refine len_l ?_ | refine tupC_t ?_ | refine tupC_l ?_
  | refine intC_i ?_ | refine intC_b ?_ | refine max2_ii ?_ | refine min2_ii ?_ | refine keyP_s ?_ | refine keyP_i ?_ | refine iIRg1 ?_ | refine iIRg2 ?_ | refine iIEnT ?_ | refine add_llb (by with_unfolding_all rfl) ?_ | refine add_ttb (by with_unfolding_all rfl) ?_
  | refine inn_T (by with_unfolding_all rfl) (by decide +kernel) (by decide +kernel) (by decide +kernel) ?_ | refine inn_F (by with_unfolding_all rfl) (by decide +kernel) (by decide +kernel) (by decide +kernel) ?_
  | refine isi_T (by with_unfolding_all rfl) (by decide +kernel) ?_ | refine isi_F (by with_unfolding_all rfl) (by decide +kernel) ?_ | refine iPsC ?_ | refine iPsN ?_)
def spFeed : DSp := fun ds G Q _ => ∃ ns, ds = [.scr ns] ∧ ∀ p G', Grow G G' → FeedOk G' p → G p = none → Q (.ref p) G'
theorem law_feed_rd : ∀ ds G Q E, spFeed ds G Q E → r_law_feed { nx := fun _ G' => Q .non G', rt := Q } (startD 1 ds) G := by
  rintro ds G Q E ⟨ns, rfl, hq⟩
  unfold r_law_feed
  walk_at "ds"
  refine iDisp fun p hp => ?_
  walk_at "ds"
  refine slS ?_
  walk_at "ds"
  refine dispEnd updG_same (by with_unfolding_all rfl) (by rfl) ?_
  refine hq p _ (Grow.upd2 hp (Grow.upd hp)) ⟨(ns.drop 0).take (min 63 ns.length), 0, 0, 0, ?_⟩ hp
  rw [updG_same]
  simp [mergeD, putD, feedKv, cutD, HT.sIx, List.map_take]
def wSides : Wk := .bes (.tick 1) (.sme 0 1 false)
def wRnd (t : Bool) : Wk := .row [.tick 2, .lop 1 3 t (.tick 2)]
def wG1 : Wk := .row [.lop 1 3 false (.row [.tick 2, .sme 0 2 false]), .eit [.tick 5, .sme 0 2 true]]
def wG2 : Wk := .row [.tick 5, .bes (.sme 1 3 true) (.lop 0 3 false (.tick 2))]
def wG3 : Wk := .row [.tick 12, .lop 3 12 false (.tick 4)]
def RC (v : D) : List D → D → Prop := fun ds d => ds = [] ∧ d = v
theorem law_sides_rd : ∀ ds G Q E, pSp (RC (toD wSides)) ds G Q E → r_law_sides { nx := fun _ G' => Q .non G', rt := Q } (startD 0 ds) G := by
  rintro ds G Q E ⟨d, ⟨rfl, rfl⟩, hq⟩
  unfold r_law_sides
  have e := hq G (Grow.refl G)
  simp only [wSides, toD, toDs] at e
  walk_at "ds"
  exact e
theorem law_rounds_rd : ∀ ds G Q E, pSp (RC (.tup [toD (wRnd false), toD (wRnd true)])) ds G Q E → r_law_rounds { nx := fun _ G' => Q .non G', rt := Q } (startD 2 ds) G := by
  rintro ds G Q E ⟨d, ⟨rfl, rfl⟩, hq⟩
  unfold r_law_rounds
  walk_at "ds"
  refine lcF [false, true] D.bl (fun t => toD (wRnd t)) ?_ (by decide) ?_ ?_
  · intro P hP
    walk_at "ds"
    exact hP _ _ (fun _ => trivial) (Grow.refl _)
  · intro t _
    refine ⟨_, rfl, fun G1 K hK => ?_⟩
    have e := hK G1 (Grow.refl _)
    simp only [wRnd, toD, toDs] at e
    walk_at "ds"
    exact e
  · intro G1 g1
    walk_at "ds"
    exact hq G1 g1
theorem law_great_rd : ∀ ds G Q E, pSp (RC (.tup [toD wG1, toD wG2, toD wG3])) ds G Q E → r_law_great { nx := fun _ G' => Q .non G', rt := Q } (startD 3 ds) G := by
  rintro ds G Q E ⟨d, ⟨rfl, rfl⟩, hq⟩
  unfold r_law_great
  have e := hq G (Grow.refl G)
  simp only [wG1, wG2, wG3, toD, toDs] at e
  walk_at "ds"
  exact e
end K17

namespace K17
open PySem L2 Dl 
local macro_rules | `(tactic| walk_at "ds") => `(tactic| repeat' with_reducible first
  | refine iSeq ?_ | refine iNext ?_ | refine iIfS ?_ | refine iRet ?_ | refine iRetN ?_ | refine iDrop ?_ | refine iAsg ?_ | refine iPar ?_ | refine iGNm ?_
  | refine iGTp (by with_unfolding_all rfl) ?_ | refine iGsCons ?_ | refine iGsNil ?_ | refine iGSb ?_ | refine iVar (by with_unfolding_all rfl) ?_ | refine iC ?_ | refine iNil ?_ | refine iCons ?_
  | refine iTup ?_ | refine lenOk (by with_unfolding_all rfl) ?_ | refine iFrz ?_ | refine iLst ?_ | refine frzEnd ?_ | refine frzT ?_ | refine frzL ?_ | refine slT ?_ | refine lstC_t ?_ | refine lstC_l ?_ | refine iOp ?_ | refine iTst ?_ | refine iTru ?_ | refine truB ?_
  | refine iAnd ?_ | refine iOr ?_ | refine iNot ?_ | refine iAndVK ?_ | refine andVT ?_ | refine andVF ?_ | refine andVDT (by decide) ?_ | refine andVDF (by decide) ?_ | refine ifDT (by decide) ?_ | refine ifDF (by decide) ?_ | refine iNotV ?_ | refine iIf ?_ | refine ifT ?_ | refine ifF ?_ | refine iCall ?_ | refine iCB ?_ | refine iMt ?_
  | refine iSl ?_ | refine iP ?_ | refine iNoP ?_ | refine iStar ?_ | refine iDGet ?_ | refine iIsi ?_ | refine iMatch ?_ | refine iFor ?_ | refine iISq ?_
  | refine rIx_i (by with_unfolding_all rfl) (by with_unfolding_all rfl) ?_ | refine rIx_i (by with_unfolding_all rfl) atI_0 ?_ | refine eq_strT ?_ | refine eq_strF (by with_unfolding_all rfl) ?_ | refine ne_strT ?_ | refine ne_strF (by with_unfolding_all rfl) ?_ | refine eq_ii ?_ | refine ne_ii ?_
  | refine caT ?_ | refine caF (by with_unfolding_all rfl) ?_ | refine caN ?_ | refine add_ii ?_ | refine int0 ?_ | refine len_t ?_ | refine len_l ?_ | refine tupC_t ?_ | refine tupC_l ?_
  | refine intC_i ?_ | refine intC_b ?_ | refine max2_ii ?_ | refine min2_ii ?_ | refine keyP_s ?_ | refine keyP_i ?_ | refine iIRg1 ?_ | refine iIRg2 ?_ | refine iIEnT ?_ | refine add_llb (by with_unfolding_all rfl) ?_ | refine add_ttb (by with_unfolding_all rfl) ?_
  | refine inn_T (by with_unfolding_all rfl) (by decide +kernel) (by decide +kernel) (by decide +kernel) ?_ | refine inn_F (by with_unfolding_all rfl) (by decide +kernel) (by decide +kernel) (by decide +kernel) ?_
  | refine isi_T (by with_unfolding_all rfl) (by decide +kernel) ?_ | refine isi_F (by with_unfolding_all rfl) (by decide +kernel) ?_ | refine iPsC ?_ | refine iPsN ?_)
def zz : Nat → Nat
  | 0 => 2
  | n + 1 => 4 * zz n + 6
theorem zz_two (n : Nat) : 2 ≤ zz n := by induction n with
  | zero => simp [zz]
  | succ n ih => simp only [zz]; omega
structure JobOk (n : Nat) (w : Wk) : Prop where
  ok : okW 12 w
  z : zW w ≤ zz n
  dp : dpW w ≤ 2 + 2 * n
  p : pW w ≤ 3 + 4 * n
theorem JobOk.tick {n : Nat} {m : Int} (h1 : 1 ≤ m) (h2 : m ≤ 12) : JobOk n (.tick m) := ⟨by rw [okW]; omega, by rw [zW]; exact zz_two n, by rw [dpW]; omega, by rw [pW]; omega⟩
theorem JobOk.sme {n : Nat} {a b : Int} {t : Bool} (h1 : 0 ≤ a) (h2 : a ≤ b) (h3 : b ≤ 12) : JobOk n (.sme a b t) := ⟨by rw [okW]; omega, by rw [zW]; exact zz_two n, by rw [dpW]; omega, by rw [pW]; omega⟩
theorem JobOk.lop {n : Nat} {a b : Int} {t : Bool} {w : Wk} (h1 : 0 ≤ a) (h2 : a ≤ b) (h3 : b ≤ 3) (h : JobOk n w) : JobOk (n + 1) (.lop a b t w) := by
  obtain ⟨h4, h5, h6, h7⟩ := h
  refine ⟨by rw [okW]; exact ⟨h1, h2, by omega, h4⟩, ?_, by rw [dpW]; omega, by rw [pW]; omega⟩
  have : (b.toNat + 1) * (zW w + 1) ≤ 4 * (zz n + 1) := Nat.mul_le_mul (by omega) (by omega)
  rw [zW, zz]; omega
theorem jobs_all {n : Nat} : ∀ {ws : List Wk}, (∀ w ∈ ws, JobOk n w) → okWs 12 ws ∧ zWs ws ≤ ws.length * zz n ∧ dpWs ws ≤ 2 + 2 * n ∧ pWs ws ≤ 3 + 4 * n
  | [], _ => ⟨by simp [okWs], by simp [zWs], by simp [dpWs], by simp only [pWs]; omega⟩
  | w :: ws, h => by
    obtain ⟨h1, h2, h3, h4⟩ := h w (List.mem_cons_self ..)
    obtain ⟨g1, g2, g3, g4⟩ := jobs_all fun x hx => h x (List.mem_cons_of_mem _ hx)
    exact ⟨by rw [okWs]; exact ⟨h1, g1⟩, by rw [zWs, List.length_cons, Nat.succ_mul]; omega, by rw [dpWs]; omega, by rw [pWs]; omega⟩
theorem JobOk.row {n : Nat} {ws : List Wk} (h : ∀ w ∈ ws, JobOk n w) (hl : ws.length ≤ 3) : JobOk (n + 1) (.row ws) := by
  obtain ⟨g1, g2, g3, g4⟩ := jobs_all h
  have : ws.length * zz n ≤ 3 * zz n := Nat.mul_le_mul_right _ hl
  exact ⟨by rw [okW]; exact g1, by rw [zW, zz]; omega, by rw [dpW]; omega, by rw [pW]; omega⟩
theorem JobOk.eit {n : Nat} {ws : List Wk} (h : ∀ w ∈ ws, JobOk n w) (hl : ws.length ≤ 3) (h0 : ws ≠ []) : JobOk (n + 1) (.eit ws) := by
  obtain ⟨g1, g2, g3, g4⟩ := jobs_all h
  have : ws.length * zz n ≤ 3 * zz n := Nat.mul_le_mul_right _ hl
  exact ⟨by rw [okW]; exact ⟨h0, g1⟩, by rw [zW, zz]; omega, by rw [dpW]; omega, by rw [pW]; omega⟩
theorem JobOk.bes {n : Nat} {a b : Wk} (h : JobOk n a) (k : JobOk n b) : JobOk (n + 1) (.bes a b) := by
  obtain ⟨g1, g2, g3, g4⟩ := h
  obtain ⟨k1, k2, k3, k4⟩ := k
  exact ⟨by rw [okW]; exact ⟨g1, k1⟩, by rw [zW, zz]; omega, by rw [dpW]; omega, by rw [pW]; omega⟩
def KeepY (a b : Addr) (G G' : GH) : Prop := ∀ c o, c ≠ a → c ≠ b → G c = some o → G' c = some o
theorem KeepY.refl (a b : Addr) (G : GH) : KeepY a b G G := fun _ _ _ _ h => h
theorem KeepY.trans {a b : Addr} {G G1 G2 : GH} (h : KeepY a b G G1) (k : KeepY a b G1 G2) : KeepY a b G G2 := fun c o n m e => k c o n m (h c o n m e)
theorem KeepY.of {a b : Addr} {G G' : GH} (h : KeepX a G G') : KeepY a b G G' := fun c o n _ e => h c o n e
theorem KeepY.upd {a b : Addr} {G : GH} {o : DO} : KeepY a b G (updG G b o) := fun c u _ n e => by rw [updG_ne n]; exact e
def SpareOk (G : GH) (b : Addr) : Prop := ∃ (s : Int) (t : Bool), G b = some (.lst [.int s, .bl t])
def spJob (n : Nat) : DSp := fun ds G Q _ => ∃ a b dp, ds = [.ref a, .int dp, .ref b] ∧ a ≠ b ∧ 0 ≤ dp ∧ dp < n ∧ FeedOk G a ∧ SpareOk G b ∧
  ∀ w G', JobOk dp.toNat w → FeedOk G' a → SpareOk G' b → KeepY a b G G' → Q (toD w) G'
theorem job_lc {n : Nat} {a b : Addr} {dp many : Int} {x3 x4 x6 : Option D} {G : GH} {K : DK} (hab : a ≠ b) (h0 : 0 < dp) (hn : dp < n + 1) (hm : 0 ≤ many) (hm2 : many ≤ 3) (hf : FeedOk G a) (hs : SpareOk G b)
    (hK : ∀ ws G', (∀ w ∈ ws, JobOk (dp - 1).toNat w) → ws.length = many.toNat → FeedOk G' a → SpareOk G' b → KeepY a b G G' → K (.lst (toDs ws)) G') :
    dLc (iRg1 (dCons (dVar 5) dNil)) (.one 8) dYes (dCall (spJob n) (dCons (dVar 0) (dCons (dOp rSub (dVar 1) (dC (.int 1))) (dCons (dVar 2) dNil)))) [8] [some (.ref a), some (.int dp), some (.ref b), x3, x4, some (.int many), x6, none, none] G (frzK K) := by
  refine iLc ?_
  walk_at "ds"
  refine ⟨by omega, by omega, ?_⟩
  intro p hp
  have hpa : a ≠ p := by rintro rfl; obtain ⟨_, _, _, _, e⟩ := hf; rw [hp] at e; cases e
  have hpb : b ≠ p := by rintro rfl; obtain ⟨_, _, e⟩ := hs; rw [hp] at e; cases e
  refine dLcGo_of (I := fun rest acc G' => ∃ ws, acc = toDs ws ∧ (∀ w ∈ ws, JobOk (dp - 1).toNat w) ∧ ws.length + rest.length = many.toNat ∧ FeedOk G' a ∧ SpareOk G' b ∧ KeepY a b G G' ∧ G' p = some (.lst acc)) ?_ ?_ _ [] _ ?_
  · rintro acc G' ⟨ws, rfl, hw, hl, f, s, k, ep⟩
    refine ⟨trivial, frzR ep ?_⟩
    refine hK ws _ hw (by simpa using hl) ?_ ?_ ?_
    · obtain ⟨c, x, y, z, e⟩ := f; exact ⟨c, x, y, z, by rw [dropG_ne hpa]; exact e⟩
    · obtain ⟨x, y, e⟩ := s; exact ⟨x, y, by rw [dropG_ne hpb]; exact e⟩
    · intro c o n1 n2 e
      have hc : c ≠ p := by rintro rfl; rw [hp] at e; cases e
      rw [dropG_ne hc]; exact k c o n1 n2 e
  · rintro x xs acc G' ⟨ws, rfl, hw, hl, f, s, k, ep⟩
    refine ⟨trivial, _, rfl, fun K2 hK2 => ?_⟩
    rw [List.length_cons] at hl
    walk_at "ds"
    refine ⟨a, b, dp - 1, rfl, hab, by omega, by omega, f, s, fun w G2 jw f2 s2 k2 => ?_⟩
    refine hK2 _ G2 (k2 _ _ hpa.symm hpb.symm ep) (by rw [toDs_len, sizeL]; omega) ⟨ws ++ [w], by rw [toDs_app, toDs, toDs], ?_, by rw [List.length_append, List.length_singleton]; omega, ?_, ?_, ?_, updG_same⟩
    · intro v hv
      rcases List.mem_append.mp hv with q | q
      · exact hw v q
      · rw [List.mem_singleton] at q; subst q; exact jw
    · obtain ⟨c, x, y, z, e⟩ := f2; exact ⟨c, x, y, z, by rw [updG_ne hpa]; exact e⟩
    · obtain ⟨x, y, e⟩ := s2; exact ⟨x, y, by rw [updG_ne hpb]; exact e⟩
    · intro c o n1 n2 e
      have hc : c ≠ p := by rintro rfl; rw [hp] at e; cases e
      rw [updG_ne hc]; exact k2 c o n1 n2 (k c o n1 n2 e)
  · refine ⟨[], by rw [toDs], (fun w hw => by cases hw), by simp [rngD], ?_, ?_, ?_, updG_same⟩
    · obtain ⟨c, x, y, z, e⟩ := hf; exact ⟨c, x, y, z, by rw [updG_ne hpa]; exact e⟩
    · obtain ⟨x, y, e⟩ := hs; exact ⟨x, y, by rw [updG_ne hpb]; exact e⟩
    · intro c o n1 n2 e
      have hc : c ≠ p := by rintro rfl; rw [hp] at e; cases e
      rw [updG_ne hc]; exact e
end K17

namespace K17
open PySem L2 Dl 
local macro_rules | `(tactic| walk_at "ds") => `(tactic| repeat' with_reducible first
  | refine iSeq ?_ | refine iNext ?_ | refine iIfS ?_ | refine iRet ?_ | refine iRetN ?_ | refine iDrop ?_ | refine iAsg ?_ | refine iPar ?_ | refine iGNm ?_
  | refine iGTp (by with_unfolding_all rfl) ?_ | refine iGsCons ?_ | refine iGsNil ?_ | refine iGSb ?_ | refine iVar (by with_unfolding_all rfl) ?_ | refine iC ?_ | refine iNil ?_ | refine iCons ?_
  | refine iTup ?_ | refine lenOk (by with_unfolding_all rfl) ?_ | refine iFrz ?_ | refine iLst ?_ | refine frzEnd ?_ | refine frzT ?_ | refine frzL ?_ | refine slT ?_ | refine lstC_t ?_ | refine lstC_l ?_ | refine iOp ?_ | refine iTst ?_ | refine iTru ?_ | refine truB ?_
  | refine iAnd ?_ | refine iOr ?_ | refine iNot ?_ | refine iAndVK ?_ | refine andVT ?_ | refine andVF ?_ | refine andVDT (by decide) ?_ | refine andVDF (by decide) ?_ | refine ifDT (by decide) ?_ | refine ifDF (by decide) ?_ | refine iNotV ?_ | refine iIf ?_ | refine ifT ?_ | refine ifF ?_ | refine iCall ?_ | refine iCB ?_ | refine iMt ?_
  | refine iSl ?_ | refine iP ?_ | refine iNoP ?_ | refine iStar ?_ | refine iDGet ?_ | refine iIsi ?_ | refine iMatch ?_ | refine iFor ?_ | refine iISq ?_
  | refine rIx_i (by with_unfolding_all rfl) (by with_unfolding_all rfl) ?_ | refine rIx_i (by with_unfolding_all rfl) atI_0 ?_ | refine eq_strT ?_ | refine eq_strF (by with_unfolding_all rfl) ?_ | refine ne_strT ?_ | refine ne_strF (by with_unfolding_all rfl) ?_ | refine eq_ii ?_ | refine ne_ii ?_
  | refine caT ?_ | refine caF (by with_unfolding_all rfl) ?_ | refine caN ?_ | refine add_ii ?_ | refine int0 ?_ | refine len_t ?_ | refine len_l ?_ | refine tupC_t ?_ | refine tupC_l ?_
  | refine intC_i ?_ | refine intC_b ?_ | refine max2_ii ?_ | refine min2_ii ?_ | refine keyP_s ?_ | refine keyP_i ?_ | refine iIRg1 ?_ | refine iIRg2 ?_ | refine iIEnT ?_ | refine add_llb (by with_unfolding_all rfl) ?_ | refine add_ttb (by with_unfolding_all rfl) ?_
  | refine inn_T (by with_unfolding_all rfl) (by decide +kernel) (by decide +kernel) (by decide +kernel) ?_ | refine inn_F (by with_unfolding_all rfl) (by decide +kernel) (by decide +kernel) (by decide +kernel) ?_
  | refine isi_T (by with_unfolding_all rfl) (by decide +kernel) ?_ | refine isi_F (by with_unfolding_all rfl) (by decide +kernel) ?_ | refine iPsC ?_ | refine iPsN ?_)
theorem FeedOk.keepU {a b : Addr} {G : GH} {o : DO} (h : FeedOk G a) (hn : a ≠ b) : FeedOk (updG G b o) a := by
  obtain ⟨c, x, y, z, e⟩ := h
  exact ⟨c, x, y, z, by rw [updG_ne hn]; exact e⟩
theorem law_job_rd {n : Nat} : ∀ ds G Q E, spJob (n + 1) ds G Q E → r_law_job spDraw (spJob n) { nx := fun _ G' => Q .non G', rt := Q } (startD 9 ds) G := by
  rintro ds G Q E ⟨a, b, dp, rfl, hab, h0, hn, hf, ⟨s, t, es⟩, hq⟩
  unfold r_law_job
  refine seqC (fun ρ G1 => ∃ r : Int, ρ = [some (.ref a), some (.int dp), some (.ref b), some (.int r), none, none, none, none, none] ∧ 0 ≤ r ∧ r < 9 ∧ (r < 3 ∨ (0 < dp ∧ 1 < s)) ∧ FeedOk G1 a ∧ KeepX a G G1) ?_ ?_
  · intro K hK
    walk_at "ds"
    refine ifD (fun h => ?_) (fun h => ?_)
    · walk_at "ds"
      refine rIx_r es atI_0 ?_
      walk_at "ds"
      refine ifD (fun h1 => ?_) (fun h1 => ?_)
      · walk_at "ds"
        refine ⟨a, 9, rfl, by decide, by decide, hf, fun r G1 r0 r1 f1 k1 => ?_⟩
        walk_at "ds"
        exact hK _ _ ⟨r, rfl, r0, r1, .inr ⟨h, h1⟩, f1, k1⟩
      · walk_at "ds"
        refine ⟨a, 3, rfl, by decide, by decide, hf, fun r G1 r0 r1 f1 k1 => ?_⟩
        walk_at "ds"
        exact hK _ _ ⟨r, rfl, r0, by omega, .inl r1, f1, k1⟩
    · walk_at "ds"
      refine ⟨a, 3, rfl, by decide, by decide, hf, fun r G1 r0 r1 f1 k1 => ?_⟩
      walk_at "ds"
      exact hK _ _ ⟨r, rfl, r0, by omega, .inl r1, f1, k1⟩
  rintro ρ G1 ⟨r, rfl, r0, r9, hr, f1, k1⟩
  walk_at "ds"
  refine ⟨a, 2, rfl, by decide, by decide, f1, fun l G2 l0 l1 f2 k2 => ?_⟩
  have K2 := k1.trans k2
  have ES := K2 b _ hab.symm es
  obtain ⟨m, hm⟩ : ∃ m : Nat, dp.toNat = m := ⟨_, rfl⟩
  rw [hm] at hq
  have rr : r = 0 ∨ r = 1 ∨ r = 2 ∨ (3 ≤ r ∧ 0 < dp ∧ 1 < s) := by omega
  rcases rr with rfl | rfl | rfl | ⟨r3, hdp, hs1⟩
  · walk_at "ds"
    refine ⟨a, 3, rfl, by decide, by decide, f2, fun q G3 q0 q1 f3 k3 => ?_⟩
    walk_at "ds"
    exact hq (.tick (1 + q)) _ (.tick (by omega) (by omega)) f3 ⟨s, t, k3 b _ hab.symm ES⟩ (KeepY.of (K2.trans k3))
  · walk_at "ds"
    refine ⟨a, 3, rfl, by decide, by decide, f2, fun q G3 q0 q1 f3 k3 => ?_⟩
    walk_at "ds"
    exact hq (.sme l (l + q) true) _ (.sme (by omega) (by omega) (by omega)) f3 ⟨s, t, k3 b _ hab.symm ES⟩ (KeepY.of (K2.trans k3))
  · walk_at "ds"
    refine ⟨a, 3, rfl, by decide, by decide, f2, fun q G3 q0 q1 f3 k3 => ?_⟩
    walk_at "ds"
    exact hq (.sme l (l + q) false) _ (.sme (by omega) (by omega) (by omega)) f3 ⟨s, t, k3 b _ hab.symm ES⟩ (KeepY.of (K2.trans k3))
  obtain ⟨m', rfl⟩ : ∃ m', m = m' + 1 := ⟨m - 1, by omega⟩
  have hm' : (dp - 1).toNat = m' := by omega
  have rr : r = 3 ∨ r = 4 ∨ r = 5 ∨ r = 6 ∨ r = 7 ∨ r = 8 := by omega
  rcases rr with rfl | rfl | rfl | rfl | rfl | rfl
  · walk_at "ds"
    refine ⟨a, 4, rfl, by decide, by decide, f2, fun q G3 q0 q1 f3 k3 => ?_⟩
    have KALL := K2.trans k3
    have ES := k3 b _ hab.symm ES
    have FF := f3
    walk_at "ds"
    refine rIx_r ES atI_0 ?_
    walk_at "ds"
    generalize hmany : (if s < q then s else q) = many
    have HM1 : 0 ≤ many := by rw [← hmany]; split <;> omega
    have HM2 : many ≤ 3 := by rw [← hmany]; split <;> omega
    cases t with
    | true =>
      walk_at "ds"
      refine rIx_r ES atI_0 ?_
      walk_at "ds"
      refine rIx_r ES atI_1 ?_
      walk_at "ds"
      refine sLst_i ES (by with_unfolding_all rfl) ?_
      walk_at "ds"
      refine sLst_i updG_same (by with_unfolding_all rfl) ?_
      rw [updG_updG]
      walk_at "ds"
      refine job_lc hab hdp (by omega) HM1 HM2 (FF.keepU hab) ⟨_, _, updG_same⟩ ?_
      intro ws G5 hws hlen f5 s5 k5
      have kk : KeepY a b G G5 := (KeepY.of KALL).trans (KeepY.upd.trans k5)
      walk_at "ds"
      rw [hm'] at hws
      exact hq (.row ws) _ (.row hws (by omega)) f5 s5 kk
    | false =>
      walk_at "ds"
      refine rIx_r ES atI_0 ?_
      walk_at "ds"
      refine rIx_r ES atI_1 ?_
      walk_at "ds"
      refine sLst_i ES (by with_unfolding_all rfl) ?_
      walk_at "ds"
      refine sLst_i updG_same (by with_unfolding_all rfl) ?_
      rw [updG_updG]
      walk_at "ds"
      refine job_lc hab hdp (by omega) HM1 HM2 (FF.keepU hab) ⟨_, _, updG_same⟩ ?_
      intro ws G5 hws hlen f5 s5 k5
      have kk : KeepY a b G G5 := (KeepY.of KALL).trans (KeepY.upd.trans k5)
      walk_at "ds"
      rw [hm'] at hws
      exact hq (.row ws) _ (.row hws (by omega)) f5 s5 kk
  · walk_at "ds"
    refine ⟨a, 4, rfl, by decide, by decide, f2, fun q G3 q0 q1 f3 k3 => ?_⟩
    have KALL := K2.trans k3
    have ES := k3 b _ hab.symm ES
    have FF := f3
    walk_at "ds"
    refine rIx_r ES atI_0 ?_
    walk_at "ds"
    generalize hmany : (if s < q then s else q) = many
    have HM1 : 0 ≤ many := by rw [← hmany]; split <;> omega
    have HM2 : many ≤ 3 := by rw [← hmany]; split <;> omega
    cases t with
    | true =>
      walk_at "ds"
      refine rIx_r ES atI_0 ?_
      walk_at "ds"
      refine rIx_r ES atI_1 ?_
      walk_at "ds"
      refine sLst_i ES (by with_unfolding_all rfl) ?_
      walk_at "ds"
      refine sLst_i updG_same (by with_unfolding_all rfl) ?_
      rw [updG_updG]
      walk_at "ds"
      refine job_lc hab hdp (by omega) HM1 HM2 (FF.keepU hab) ⟨_, _, updG_same⟩ ?_
      intro ws G5 hws hlen f5 s5 k5
      have kk : KeepY a b G G5 := (KeepY.of KALL).trans (KeepY.upd.trans k5)
      walk_at "ds"
      rw [hm'] at hws
      exact hq (.row ws) _ (.row hws (by omega)) f5 s5 kk
    | false =>
      walk_at "ds"
      refine rIx_r ES atI_0 ?_
      walk_at "ds"
      refine rIx_r ES atI_1 ?_
      walk_at "ds"
      refine sLst_i ES (by with_unfolding_all rfl) ?_
      walk_at "ds"
      refine sLst_i updG_same (by with_unfolding_all rfl) ?_
      rw [updG_updG]
      walk_at "ds"
      refine job_lc hab hdp (by omega) HM1 HM2 (FF.keepU hab) ⟨_, _, updG_same⟩ ?_
      intro ws G5 hws hlen f5 s5 k5
      have kk : KeepY a b G G5 := (KeepY.of KALL).trans (KeepY.upd.trans k5)
      walk_at "ds"
      rw [hm'] at hws
      exact hq (.row ws) _ (.row hws (by omega)) f5 s5 kk
  · have KALL := K2
    have FF := f2
    have HM1 : (0 : Int) ≤ 1 := by decide
    have HM2 : (1 : Int) ≤ 3 := by decide
    cases t with
    | true =>
      walk_at "ds"
      refine rIx_r ES atI_0 ?_
      walk_at "ds"
      refine rIx_r ES atI_1 ?_
      walk_at "ds"
      refine sLst_i ES (by with_unfolding_all rfl) ?_
      walk_at "ds"
      refine sLst_i updG_same (by with_unfolding_all rfl) ?_
      rw [updG_updG]
      walk_at "ds"
      refine job_lc hab hdp (by omega) HM1 HM2 (FF.keepU hab) ⟨_, _, updG_same⟩ ?_
      intro ws G5 hws hlen f5 s5 k5
      have kk : KeepY a b G G5 := (KeepY.of KALL).trans (KeepY.upd.trans k5)
      walk_at "ds"
      rw [hm'] at hws
      match ws, hlen with
      | [w], _ =>
      refine ⟨a, 3, rfl, by decide, by decide, f5, fun q G6 q0 q1 f6 k6 => ?_⟩
      walk_at "ds"
      obtain ⟨s6, t6, e6⟩ := s5
      exact hq (.lop l (l + q) true w) _ (.lop (by omega) (by omega) (by omega) (hws w (List.mem_cons_self ..))) f6 ⟨s6, t6, k6 b _ hab.symm e6⟩ (kk.trans (KeepY.of k6))
    | false =>
      walk_at "ds"
      refine rIx_r ES atI_0 ?_
      walk_at "ds"
      refine rIx_r ES atI_1 ?_
      walk_at "ds"
      refine sLst_i ES (by with_unfolding_all rfl) ?_
      walk_at "ds"
      refine sLst_i updG_same (by with_unfolding_all rfl) ?_
      rw [updG_updG]
      walk_at "ds"
      refine job_lc hab hdp (by omega) HM1 HM2 (FF.keepU hab) ⟨_, _, updG_same⟩ ?_
      intro ws G5 hws hlen f5 s5 k5
      have kk : KeepY a b G G5 := (KeepY.of KALL).trans (KeepY.upd.trans k5)
      walk_at "ds"
      rw [hm'] at hws
      match ws, hlen with
      | [w], _ =>
      refine ⟨a, 3, rfl, by decide, by decide, f5, fun q G6 q0 q1 f6 k6 => ?_⟩
      walk_at "ds"
      obtain ⟨s6, t6, e6⟩ := s5
      exact hq (.lop l (l + q) true w) _ (.lop (by omega) (by omega) (by omega) (hws w (List.mem_cons_self ..))) f6 ⟨s6, t6, k6 b _ hab.symm e6⟩ (kk.trans (KeepY.of k6))
  · have KALL := K2
    have FF := f2
    have HM1 : (0 : Int) ≤ 1 := by decide
    have HM2 : (1 : Int) ≤ 3 := by decide
    cases t with
    | true =>
      walk_at "ds"
      refine rIx_r ES atI_0 ?_
      walk_at "ds"
      refine rIx_r ES atI_1 ?_
      walk_at "ds"
      refine sLst_i ES (by with_unfolding_all rfl) ?_
      walk_at "ds"
      refine sLst_i updG_same (by with_unfolding_all rfl) ?_
      rw [updG_updG]
      walk_at "ds"
      refine job_lc hab hdp (by omega) HM1 HM2 (FF.keepU hab) ⟨_, _, updG_same⟩ ?_
      intro ws G5 hws hlen f5 s5 k5
      have kk : KeepY a b G G5 := (KeepY.of KALL).trans (KeepY.upd.trans k5)
      walk_at "ds"
      rw [hm'] at hws
      match ws, hlen with
      | [w], _ =>
      refine ⟨a, 3, rfl, by decide, by decide, f5, fun q G6 q0 q1 f6 k6 => ?_⟩
      walk_at "ds"
      obtain ⟨s6, t6, e6⟩ := s5
      exact hq (.lop l (l + q) false w) _ (.lop (by omega) (by omega) (by omega) (hws w (List.mem_cons_self ..))) f6 ⟨s6, t6, k6 b _ hab.symm e6⟩ (kk.trans (KeepY.of k6))
    | false =>
      walk_at "ds"
      refine rIx_r ES atI_0 ?_
      walk_at "ds"
      refine rIx_r ES atI_1 ?_
      walk_at "ds"
      refine sLst_i ES (by with_unfolding_all rfl) ?_
      walk_at "ds"
      refine sLst_i updG_same (by with_unfolding_all rfl) ?_
      rw [updG_updG]
      walk_at "ds"
      refine job_lc hab hdp (by omega) HM1 HM2 (FF.keepU hab) ⟨_, _, updG_same⟩ ?_
      intro ws G5 hws hlen f5 s5 k5
      have kk : KeepY a b G G5 := (KeepY.of KALL).trans (KeepY.upd.trans k5)
      walk_at "ds"
      rw [hm'] at hws
      match ws, hlen with
      | [w], _ =>
      refine ⟨a, 3, rfl, by decide, by decide, f5, fun q G6 q0 q1 f6 k6 => ?_⟩
      walk_at "ds"
      obtain ⟨s6, t6, e6⟩ := s5
      exact hq (.lop l (l + q) false w) _ (.lop (by omega) (by omega) (by omega) (hws w (List.mem_cons_self ..))) f6 ⟨s6, t6, k6 b _ hab.symm e6⟩ (kk.trans (KeepY.of k6))
  · walk_at "ds"
    refine ⟨a, 2, rfl, by decide, by decide, f2, fun q G3 q0 q1 f3 k3 => ?_⟩
    have KALL := K2.trans k3
    have ES := k3 b _ hab.symm ES
    have FF := f3
    have HM1 : 0 ≤ 1 + q := by omega
    have HM2 : 1 + q ≤ 3 := by omega
    cases t with
    | true =>
      walk_at "ds"
      refine rIx_r ES atI_0 ?_
      walk_at "ds"
      refine rIx_r ES atI_1 ?_
      walk_at "ds"
      refine sLst_i ES (by with_unfolding_all rfl) ?_
      walk_at "ds"
      refine sLst_i updG_same (by with_unfolding_all rfl) ?_
      rw [updG_updG]
      walk_at "ds"
      refine job_lc hab hdp (by omega) HM1 HM2 (FF.keepU hab) ⟨_, _, updG_same⟩ ?_
      intro ws G5 hws hlen f5 s5 k5
      have kk : KeepY a b G G5 := (KeepY.of KALL).trans (KeepY.upd.trans k5)
      walk_at "ds"
      rw [hm'] at hws
      exact hq (.eit ws) _ (.eit hws (by omega) (by rintro rfl; simp at hlen; omega)) f5 s5 kk
    | false =>
      walk_at "ds"
      refine rIx_r ES atI_0 ?_
      walk_at "ds"
      refine rIx_r ES atI_1 ?_
      walk_at "ds"
      refine sLst_i ES (by with_unfolding_all rfl) ?_
      walk_at "ds"
      refine sLst_i updG_same (by with_unfolding_all rfl) ?_
      rw [updG_updG]
      walk_at "ds"
      refine job_lc hab hdp (by omega) HM1 HM2 (FF.keepU hab) ⟨_, _, updG_same⟩ ?_
      intro ws G5 hws hlen f5 s5 k5
      have kk : KeepY a b G G5 := (KeepY.of KALL).trans (KeepY.upd.trans k5)
      walk_at "ds"
      rw [hm'] at hws
      exact hq (.eit ws) _ (.eit hws (by omega) (by rintro rfl; simp at hlen; omega)) f5 s5 kk
  · cases t with
    | true =>
      have KALL := K2
      have FF := f2
      have HM1 : (0 : Int) ≤ 2 := by decide
      have HM2 : (2 : Int) ≤ 3 := by decide
      walk_at "ds"
      refine rIx_r ES atI_1 ?_
      walk_at "ds"
      refine rIx_r ES atI_1 ?_
      walk_at "ds"
      refine rIx_r ES atI_0 ?_
      walk_at "ds"
      refine rIx_r ES atI_1 ?_
      walk_at "ds"
      refine sLst_i ES (by with_unfolding_all rfl) ?_
      walk_at "ds"
      refine sLst_i updG_same (by with_unfolding_all rfl) ?_
      rw [updG_updG]
      walk_at "ds"
      refine job_lc hab hdp (by omega) HM1 HM2 (FF.keepU hab) ⟨_, _, updG_same⟩ ?_
      intro ws G5 hws hlen f5 s5 k5
      have kk : KeepY a b G G5 := (KeepY.of KALL).trans (KeepY.upd.trans k5)
      walk_at "ds"
      rw [hm'] at hws
      match ws, hlen with
      | [w, v], _ =>
      walk_at "ds"
      exact hq (.bes w v) _ (.bes (hws w (by simp)) (hws v (by simp))) f5 s5 kk
    | false =>
      walk_at "ds"
      refine rIx_r ES atI_1 ?_
      walk_at "ds"
      refine ⟨a, 2, rfl, by decide, by decide, f2, fun q G3 q0 q1 f3 k3 => ?_⟩
      have KALL := K2.trans k3
      have ES := k3 b _ hab.symm ES
      have FF := f3
      have HM1 : 0 ≤ 1 + q := by omega
      have HM2 : 1 + q ≤ 3 := by omega
      walk_at "ds"
      refine rIx_r ES atI_1 ?_
      walk_at "ds"
      refine rIx_r ES atI_0 ?_
      walk_at "ds"
      refine rIx_r ES atI_1 ?_
      walk_at "ds"
      refine sLst_i ES (by with_unfolding_all rfl) ?_
      walk_at "ds"
      refine sLst_i updG_same (by with_unfolding_all rfl) ?_
      rw [updG_updG]
      walk_at "ds"
      refine job_lc hab hdp (by omega) HM1 HM2 (FF.keepU hab) ⟨_, _, updG_same⟩ ?_
      intro ws G5 hws hlen f5 s5 k5
      have kk : KeepY a b G G5 := (KeepY.of KALL).trans (KeepY.upd.trans k5)
      walk_at "ds"
      rw [hm'] at hws
      exact hq (.eit ws) _ (.eit hws (by omega) (by rintro rfl; simp at hlen; omega)) f5 s5 kk
end K17

namespace K17
open PySem L2 Dl 
local macro_rules | `(tactic| walk_at "ds") => `(tactic| repeat' with_reducible first
  | refine iSeq ?_ | refine iNext ?_ | refine iIfS ?_ | refine iRet ?_ | refine iRetN ?_ | refine iDrop ?_ | refine iAsg ?_ | refine iPar ?_ | refine iGNm ?_
  | refine iGTp (by with_unfolding_all rfl) ?_ | refine iGsCons ?_ | refine iGsNil ?_ | refine iGSb ?_ | refine iVar (by with_unfolding_all rfl) ?_ | refine iC ?_ | refine iNil ?_ | refine iCons ?_
  | refine iTup ?_ | refine lenOk (by with_unfolding_all rfl) ?_ | refine iFrz ?_ | refine iLst ?_ | refine frzEnd ?_ | refine frzT ?_ | refine frzL ?_ | refine slT ?_ | refine lstC_t ?_ | refine lstC_l ?_ | refine iOp ?_ | refine iTst ?_ | refine iTru ?_ | refine truB ?_
  | refine iAnd ?_ | refine iOr ?_ | refine iNot ?_ | refine iAndVK ?_ | refine andVT ?_ | refine andVF ?_ | refine andVDT (by decide) ?_ | refine andVDF (by decide) ?_ | refine ifDT (by decide) ?_ | refine ifDF (by decide) ?_ | refine iNotV ?_ | refine iIf ?_ | refine ifT ?_ | refine ifF ?_ | refine iCall ?_ | refine iCB ?_ | refine iMt ?_
  | refine iSl ?_ | refine iP ?_ | refine iNoP ?_ | refine iStar ?_ | refine iDGet ?_ | refine iIsi ?_ | refine iMatch ?_ | refine iFor ?_ | refine iISq ?_
  | refine rIx_i (by with_unfolding_all rfl) (by with_unfolding_all rfl) ?_ | refine rIx_i (by with_unfolding_all rfl) atI_0 ?_ | refine eq_strT ?_ | refine eq_strF (by with_unfolding_all rfl) ?_ | refine ne_strT ?_ | refine ne_strF (by with_unfolding_all rfl) ?_ | refine eq_ii ?_ | refine ne_ii ?_
  | refine caT ?_ | refine caF (by with_unfolding_all rfl) ?_ | refine caN ?_ | refine add_ii ?_ | refine int0 ?_ | refine len_t ?_ | refine len_l ?_ | refine tupC_t ?_ | refine tupC_l ?_
  | refine intC_i ?_ | refine intC_b ?_ | refine max2_ii ?_ | refine min2_ii ?_ | refine keyP_s ?_ | refine keyP_i ?_ | refine iIRg1 ?_ | refine iIRg2 ?_ | refine iIEnT ?_ | refine add_llb (by with_unfolding_all rfl) ?_ | refine add_ttb (by with_unfolding_all rfl) ?_
  | refine inn_T (by with_unfolding_all rfl) (by decide +kernel) (by decide +kernel) (by decide +kernel) ?_ | refine inn_F (by with_unfolding_all rfl) (by decide +kernel) (by decide +kernel) (by decide +kernel) ?_
  | refine isi_T (by with_unfolding_all rfl) (by decide +kernel) ?_ | refine isi_F (by with_unfolding_all rfl) (by decide +kernel) ?_ | refine iPsC ?_ | refine iPsN ?_)
mutual
theorem okW_mono {A B : Int} (h : A ≤ B) : ∀ w : Wk, okW A w → okW B w
  | .tick _, k => by rw [okW] at *; omega
  | .sme _ _ _, k => by rw [okW] at *; omega
  | .lop _ _ _ w, k => by rw [okW] at *; exact ⟨k.1, k.2.1, by omega, okW_mono h w k.2.2.2⟩
  | .eit ws, k => by rw [okW] at *; exact ⟨k.1, okWs_mono h ws k.2⟩
  | .row ws, k => by rw [okW] at *; exact okWs_mono h ws k
  | .bes a b, k => by rw [okW] at *; exact ⟨okW_mono h a k.1, okW_mono h b k.2⟩
theorem okWs_mono {A B : Int} (h : A ≤ B) : ∀ ws : List Wk, okWs A ws → okWs B ws
  | [], _ => by simp [okWs]
  | w :: ws, k => by rw [okWs] at *; exact ⟨okW_mono h w k.1, okWs_mono h ws k.2⟩
end
structure Bd (w : Wk) : Prop where
  ok : okW 12 w
  z : zW w ≤ 270
  p : pW w ≤ 16
  dp : dpW w ≤ 20
theorem Bd.o {w : Wk} (h : Bd w) : okW 999 w := okW_mono (by decide) w h.ok
theorem Bd.tidy {w : Wk} (h : Bd w) : Bd (tidyW w) ∧ dpW (tidyW w) ≤ 16 := by
  have h1 := tidy_z w
  have h2 := tidy_p w
  have h3 := tidy_dp_p w
  obtain ⟨a, b, c, d⟩ := h
  exact ⟨⟨tidy_ok w a, by omega, by omega, by omega⟩, by omega⟩
theorem Bd.beh {w : Wk} {s : Sg} (h : Bd w) (hd : dpW w ≤ 16) (hs : s ∈ nxW w) : Bd (behW w s) := by
  obtain ⟨a, b, c, d⟩ := h
  obtain ⟨e, f, g, i⟩ := beh_ok (B := 12) w s a hs
  exact ⟨e, by omega, by omega, by omega⟩
theorem Bd.after {w : Wk} {s : Sg} (h : Bd w) (hd : dpW w ≤ 16) (hs : s ∈ nxW w) : Bd (tidyW (behW w s)) ∧ dpW (tidyW (behW w s)) ≤ 16 := (h.beh hd hs).tidy
theorem seqW (w : Wk) : isSeqD (toD w) = true := by cases w <;> simp [toD, isSeqD]
theorem vwW (G : GH) (w : Wk) : vw G (toD w) = toD w := by cases w <;> simp [toD, vw]
theorem Bd.sm {w : Wk} (h : Bd w) : smD (toD w) = true := sm_toD (B := 999) (by decide) w h.o
theorem Bd.wt {w : Wk} (h : Bd w) : wtD (toD w) ≤ 16200 := by have := wt_toD w; have := h.z; omega
theorem Bd.dep {w : Wk} (h : Bd w) : depD (toD w) ≤ 20 := by rw [dep_toD]; exact h.dp
theorem Bd.shw {w : Wk} (h : Bd w) : Shw (toD w) := shw_of (seqW w) h.sm (by have := h.dep; omega) (by have := h.wt; omega)
theorem Bd.nxs {w : Wk} (h : Bd w) : smDs ((nxW w).map sgD) = true ∧ depDs ((nxW w).map sgD) ≤ 21 ∧ wtDs ((nxW w).map sgD) ≤ 330000 ∧ (nxW w).length ≤ 1755 := by
  have k := nx_ok (B := 999) (by decide) w h.o (by have := h.z; omega)
  have hd := h.dp
  have hl := nx_len (B := 12) (by decide) w h.ok
  have h4 : (12 + 1 : Int).toNat * zW w ≤ (12 + 1 : Int).toNat * 270 := Nat.mul_le_mul_left _ h.z
  have h5 : (12 + 1 : Int).toNat * 270 = 3510 := by decide
  have hl2 : (nxW w).length ≤ 1755 := by omega
  refine ⟨?_, ?_, ?_, hl2⟩
  · rw [smDs_iff]; intro d hd; obtain ⟨s, hs, rfl⟩ := List.mem_map.mp hd; exact (k s hs).sm
  · refine depDs_le ?_; intro d hd'; obtain ⟨s, hs, rfl⟩ := List.mem_map.mp hd'; have := (k s hs).dp; omega
  · have h6 : wtDs ((nxW w).map sgD) ≤ ((nxW w).map sgD).length * (186 + 1) := wtDs_le (by intro d hd'; obtain ⟨s, hs, rfl⟩ := List.mem_map.mp hd'; have := (k s hs).wt; omega)
    rw [List.length_map] at h6
    have h7 : (nxW w).length * (186 + 1) ≤ 1755 * (186 + 1) := Nat.mul_le_mul_right _ hl2
    omega
theorem repr_w {w : Wk} {G : GH} {Q : DK} (e : Shw (toD w)) (h : Q (.str (shD (toD w))) G) : rRepr [toD w] G Q := by
  refine repr_i ?_ ?_ <;> rw [vwW] <;> assumption
theorem repr_t {l : List D} {G : GH} {Q : DK} (e : Shw (.tup l)) (h : Q (.str (shD (.tup l))) G) : rRepr [.tup l] G Q := repr_i e h
theorem repr_l {l : List D} {G : GH} {Q : DK} (e : Shw (.lst l)) (h : Q (.str (shD (.lst l))) G) : rRepr [.lst l] G Q := repr_i e h
theorem JobOk.bd {w : Wk} (h : JobOk 3 w) : Bd w := by
  obtain ⟨a, b, c, d⟩ := h
  have : zz 3 = 254 := by decide
  exact ⟨a, by omega, by omega, by omega⟩
theorem bd_rnd (t : Bool) : Bd (wRnd t) := by cases t <;> exact ⟨by simp [wRnd, okW, okWs], by decide, by decide, by decide⟩
end K17

namespace K17
open PySem L2 Dl 
local macro_rules | `(tactic| walk_at "ds") => `(tactic| repeat' with_reducible first
  | refine iSeq ?_ | refine iNext ?_ | refine iIfS ?_ | refine iRet ?_ | refine iRetN ?_ | refine iDrop ?_ | refine iAsg ?_ | refine iPar ?_ | refine iGNm ?_
  | refine iGTp (by with_unfolding_all rfl) ?_ | refine iGsCons ?_ | refine iGsNil ?_ | refine iGSb ?_ | refine iVar (by with_unfolding_all rfl) ?_ | refine iC ?_ | refine iNil ?_ | refine iCons ?_
  | refine iTup ?_ | refine lenOk (by with_unfolding_all rfl) ?_ | refine iFrz ?_ | refine iLst ?_ | refine frzEnd ?_ | refine frzT ?_ | refine frzL ?_ | refine slT ?_ | refine lstC_t ?_ | refine lstC_l ?_ | refine iOp ?_ | refine iTst ?_ | refine iTru ?_ | refine truB ?_
  | refine iAnd ?_ | refine iOr ?_ | refine iNot ?_ | refine iAndVK ?_ | refine andVT ?_ | refine andVF ?_ | refine andVDT (by decide) ?_ | refine andVDF (by decide) ?_ | refine ifDT (by decide) ?_ | refine ifDF (by decide) ?_ | refine iNotV ?_ | refine iIf ?_ | refine ifT ?_ | refine ifF ?_ | refine iCall ?_ | refine iCB ?_ | refine iMt ?_
  | refine iSl ?_ | refine iP ?_ | refine iNoP ?_ | refine iStar ?_ | refine iDGet ?_ | refine iIsi ?_ | refine iMatch ?_ | refine iFor ?_ | refine iISq ?_
  | refine rIx_i (by with_unfolding_all rfl) (by with_unfolding_all rfl) ?_ | refine rIx_i (by with_unfolding_all rfl) atI_0 ?_ | refine eq_strT ?_ | refine eq_strF (by with_unfolding_all rfl) ?_ | refine ne_strT ?_ | refine ne_strF (by with_unfolding_all rfl) ?_ | refine eq_ii ?_ | refine ne_ii ?_
  | refine caT ?_ | refine caF (by with_unfolding_all rfl) ?_ | refine caN ?_ | refine add_ii ?_ | refine int0 ?_ | refine len_t ?_ | refine len_l ?_ | refine tupC_t ?_ | refine tupC_l ?_
  | refine intC_i ?_ | refine intC_b ?_ | refine max2_ii ?_ | refine min2_ii ?_ | refine keyP_s ?_ | refine keyP_i ?_ | refine iIRg1 ?_ | refine iIRg2 ?_ | refine iIEnT ?_ | refine add_llb (by with_unfolding_all rfl) ?_ | refine add_ttb (by with_unfolding_all rfl) ?_
  | refine inn_T (by with_unfolding_all rfl) (by decide +kernel) (by decide +kernel) (by decide +kernel) ?_ | refine inn_F (by with_unfolding_all rfl) (by decide +kernel) (by decide +kernel) (by decide +kernel) ?_
  | refine isi_T (by with_unfolding_all rfl) (by decide +kernel) ?_ | refine isi_F (by with_unfolding_all rfl) (by decide +kernel) ?_ | refine iPsC ?_ | refine iPsN ?_)
theorem ne_rl {p : Addr} {l b : List D} {G : GH} {Q : DK} (e : G p = some (.lst l)) (h1 : okD (.lst l)) (h2 : okD (.lst b)) (h : Q (.bl (!eqvD (.lst l) (.lst b))) G) : rCmp not (.ref p) (.lst b) G Q := by
  unfold rCmp vw
  dsimp only
  rw [e]
  exact ⟨h1, h2, h⟩
theorem okNil : okD (.lst []) := okD_of (by decide +kernel) (by decide +kernel)
theorem putD_new {kvs : List (Key × D)} {k : Key} {d : D} (h : getK kvs k = none) : putD kvs k d = kvs ++ [(k, d)] := by
  unfold putD
  rw [if_neg]
  intro e
  rw [List.any_eq_true] at e
  obtain ⟨p, hp, e⟩ := e
  have : ∀ {l : List (Key × D)}, p ∈ l → getK l k ≠ none := by
    intro l
    induction l with
    | nil => intro h; cases h
    | cons q r ih =>
      intro h
      unfold getK
      split
      · simp
      · rename_i hne
        rcases List.mem_cons.mp h with rfl | h
        · exact absurd (by simpa using e) hne
        · exact ih h
  exact this hp h
theorem dIn_i {a : Addr} {kvs : List (Key × D)} {x : Str} {f : Bool → Bool} {G : GH} {Q : DK} (e : G a = some (.dct kvs)) (h : Q (.bl (f (getK kvs (.inr x)).isSome)) G) : rDIn f (.str x) (.ref a) G Q := dctP_i e h
def itD (q : Int × Wk) : D := .tup [.int q.1, toD q.2]
structure PileOk (k : Nat) (items : List (Int × Wk)) : Prop where
  all : ∀ q ∈ items, 0 ≤ q.1 ∧ q.1 ≤ k ∧ Bd q.2 ∧ dpW q.2 ≤ 16
structure Pl (G0 : GH) (p1 p2 : Addr) (k : Nat) (G : GH) : Prop where
  ex : ∃ items kvs, G p1 = some (.lst (items.map itD)) ∧ G p2 = some (.dct kvs) ∧ items.length + k = kvs.length ∧ PileOk k items ∧ kvs.length ≤ 100000 + 2000 * k
  gr : Grow G0 G
end K17

namespace K17
open PySem L2 Dl 
local macro_rules | `(tactic| walk_at "ds") => `(tactic| repeat' with_reducible first
  | refine iSeq ?_ | refine iNext ?_ | refine iIfS ?_ | refine iRet ?_ | refine iRetN ?_ | refine iDrop ?_ | refine iAsg ?_ | refine iPar ?_ | refine iGNm ?_
  | refine iGTp (by with_unfolding_all rfl) ?_ | refine iGsCons ?_ | refine iGsNil ?_ | refine iGSb ?_ | refine iVar (by with_unfolding_all rfl) ?_ | refine iC ?_ | refine iNil ?_ | refine iCons ?_
  | refine iTup ?_ | refine lenOk (by with_unfolding_all rfl) ?_ | refine iFrz ?_ | refine iLst ?_ | refine frzEnd ?_ | refine frzT ?_ | refine frzL ?_ | refine slT ?_ | refine lstC_t ?_ | refine lstC_l ?_ | refine iOp ?_ | refine iTst ?_ | refine iTru ?_ | refine truB ?_
  | refine iAnd ?_ | refine iOr ?_ | refine iNot ?_ | refine iAndVK ?_ | refine andVT ?_ | refine andVF ?_ | refine andVDT (by decide) ?_ | refine andVDF (by decide) ?_ | refine ifDT (by decide) ?_ | refine ifDF (by decide) ?_ | refine iNotV ?_ | refine iIf ?_ | refine ifT ?_ | refine ifF ?_ | refine iCall ?_ | refine iCB ?_ | refine iMt ?_
  | refine iSl ?_ | refine iP ?_ | refine iNoP ?_ | refine iStar ?_ | refine iDGet ?_ | refine iIsi ?_ | refine iMatch ?_ | refine iFor ?_ | refine iISq ?_
  | refine rIx_i (by with_unfolding_all rfl) (by with_unfolding_all rfl) ?_ | refine rIx_i (by with_unfolding_all rfl) atI_0 ?_ | refine eq_strT ?_ | refine eq_strF (by with_unfolding_all rfl) ?_ | refine ne_strT ?_ | refine ne_strF (by with_unfolding_all rfl) ?_ | refine eq_ii ?_ | refine ne_ii ?_
  | refine caT ?_ | refine caF (by with_unfolding_all rfl) ?_ | refine caN ?_ | refine add_ii ?_ | refine int0 ?_ | refine len_t ?_ | refine len_l ?_ | refine tupC_t ?_ | refine tupC_l ?_
  | refine intC_i ?_ | refine intC_b ?_ | refine max2_ii ?_ | refine min2_ii ?_ | refine keyP_s ?_ | refine keyP_i ?_ | refine iIRg1 ?_ | refine iIRg2 ?_ | refine iIEnT ?_ | refine add_llb (by with_unfolding_all rfl) ?_ | refine add_ttb (by with_unfolding_all rfl) ?_
  | refine inn_T (by with_unfolding_all rfl) (by decide +kernel) (by decide +kernel) (by decide +kernel) ?_ | refine inn_F (by with_unfolding_all rfl) (by decide +kernel) (by decide +kernel) (by decide +kernel) ?_
  | refine isi_T (by with_unfolding_all rfl) (by decide +kernel) ?_ | refine isi_F (by with_unfolding_all rfl) (by decide +kernel) ?_ | refine iPsC ?_ | refine iPsN ?_)
theorem bd_dec {w : Wk} (h1 : okW 12 w) (h2 : (zW w).ble 270 = true) (h3 : (pW w).ble 16 = true) (h4 : (dpW w).ble 14 = true) : Bd w ∧ dpW w ≤ 16 :=
  ⟨⟨h1, Nat.le_of_ble_eq_true h2, Nat.le_of_ble_eq_true h3, by have := Nat.le_of_ble_eq_true h4; omega⟩, by have := Nat.le_of_ble_eq_true h4; omega⟩
def spLaw : DSp := fun ds G Q _ => ∃ ns, ds = [.scr ns] ∧ ∀ G', Q (.bl true) G'
end K17

namespace K18
open PySem L2 Dl
def r_law_runs (sp_law_after : DSp) (sp_law_next : DSp) (sp_law_tidy : DSp) : DTS :=
  (dSeq (dPar 2 3 (dCons (dLst dNil) (dCons (dLst (dCons (dTup (dCons (dTup dNil) (dCons (dCall sp_law_tidy (dCons (dVar 0) dNil)) dNil))) dNil)) dNil)))
  (dSeq (dWhile (dAnd (dTst (dOp rNev (dVar 3) (dFrz (dLst dNil)))) (dTst (dOp rLe (dCB rLen (dCons (dVar 2) dNil)) (dVar 1))))
  (dSeq (dAsg (dMt mPop (dVar 3) dNil) (gTp 2 (gsCons (gNm 4) (gsCons (gNm 5) gsNil))))
  (dSeq (dAsg (dCall sp_law_next (dCons (dVar 5) dNil)) (gNm 6))
  (dSeq (dIfS (dTst (dOp rEqv (dVar 6) (dFrz (dLst dNil))))
  (dDrop (dMt mAppend (dVar 2) (dCons (dVar 4) dNil)))
  dNext)
  (dDrop (dMt mExtend (dVar 3) (dCons (dFrz (dLc (iSq (dFrz (dRev (dVar 6)))) (.one 7) dYes (dTup (dCons (dOp rAdd (dVar 4) (dTup (dCons (dVar 7) dNil))) (dCons (dCall sp_law_after (dCons (dVar 5) (dCons (dVar 7) dNil))) dNil))) [7])) dNil)))))))
  (dRet (dFrz (dVar 2)))))

end K18

namespace K18
open PySem L2 Dl K17
local macro_rules | `(tactic| walk_at "ds") => `(tactic| repeat' with_reducible first
  | refine iNeg ?_ | refine lstP_i (by assumption) ?_ | refine lstP_i updG_same ?_ | refine dctP_i (by assumption) ?_ | refine dctP_i updG_same ?_ | refine isN_T ?_ | refine isN_F (by with_unfolding_all rfl) ?_ | refine iRev ?_ | refine revT ?_ | refine revL ?_ | refine iCallG ?_ | refine iSeq ?_ | refine iNext ?_ | refine iIfS ?_ | refine iRet ?_ | refine iRetN ?_ | refine iDrop ?_ | refine iAsg ?_ | refine iPar ?_ | refine iGNm ?_
  | refine iGTp (by with_unfolding_all rfl) ?_ | refine iGsCons ?_ | refine iGsNil ?_ | refine iGSb ?_ | refine iVar (by with_unfolding_all rfl) ?_ | refine iC ?_ | refine iNil ?_ | refine iCons ?_
  | refine iTup ?_ | refine lenOk (by with_unfolding_all rfl) ?_ | refine iFrz ?_ | refine iLst ?_ | refine frzEnd ?_ | refine frzT ?_ | refine frzL ?_ | refine slT ?_ | refine lstC_t ?_ | refine lstC_l ?_ | refine iOp ?_ | refine iTst ?_ | refine iTru ?_ | refine truB ?_
  | refine iAnd ?_ | refine iOr ?_ | refine iNot ?_ | refine iAndVK ?_ | refine andVT ?_ | refine andVF ?_ | refine andVDT (by decide) ?_ | refine andVDF (by decide) ?_ | refine ifDT (by decide) ?_ | refine ifDF (by decide) ?_ | refine iNotV ?_ | refine iIf ?_ | refine ifT ?_ | refine ifF ?_ | refine iCall ?_ | refine iCB ?_ | refine iMt ?_
  | refine iSl ?_ | refine iP ?_ | refine iNoP ?_ | refine iStar ?_ | refine iDGet ?_ | refine iIsi ?_ | refine iMatch ?_ | refine iFor ?_ | refine iISq ?_
  | refine rIx_i (by with_unfolding_all rfl) (by with_unfolding_all rfl) ?_ | refine rIx_i (by with_unfolding_all rfl) atI_0 ?_ | refine eq_strT ?_ | refine eq_strF (by with_unfolding_all rfl) ?_ | refine ne_strT ?_ | refine ne_strF (by with_unfolding_all rfl) ?_ | refine eq_ii ?_ | refine ne_ii ?_
  | refine caT ?_ | refine caF (by with_unfolding_all rfl) ?_ | refine caN ?_ | refine add_ii ?_ | refine int0 ?_ | refine len_t ?_ | refine len_l ?_ | refine tupC_t ?_ | refine tupC_l ?_
  | refine intC_i ?_ | refine intC_b ?_ | refine max2_ii ?_ | refine min2_ii ?_ | refine keyP_s ?_ | refine keyP_i ?_ | refine iIRg1 ?_ | refine iIRg2 ?_ | refine iIEnT ?_ | refine add_llb (by with_unfolding_all rfl) ?_ | refine add_ttb (by with_unfolding_all rfl) ?_
  | refine inn_T (by with_unfolding_all rfl) (by decide +kernel) (by decide +kernel) (by decide +kernel) ?_ | refine inn_F (by with_unfolding_all rfl) (by decide +kernel) (by decide +kernel) (by decide +kernel) ?_
  | refine isi_T (by with_unfolding_all rfl) (by decide +kernel) ?_ | refine isi_F (by with_unfolding_all rfl) (by decide +kernel) ?_ | refine iPsC ?_ | refine iPsN ?_ | refine ifNT ?_ | refine ifNF ?_
  | refine andVDT (by with_reducible_and_instances first | omega | (simp only [List.length_cons, List.length_nil]; omega)) ?_ | refine andVDF (by with_reducible_and_instances first | omega | (simp only [List.length_cons, List.length_nil]; omega)) ?_ | refine ifDT (by with_reducible_and_instances first | omega | (simp only [List.length_cons, List.length_nil]; omega)) ?_ | refine ifDF (by with_reducible_and_instances first | omega | (simp only [List.length_cons, List.length_nil]; omega)) ?_
  | refine ifNDT (by with_reducible_and_instances first | omega | (simp only [List.length_cons, List.length_nil]; omega)) ?_ | refine ifNDF (by with_reducible_and_instances first | omega | (simp only [List.length_cons, List.length_nil]; omega)) ?_
  | fail "stuck")
theorem cleanDs_iff : ∀ {ds : List D}, cleanDs ds = true ↔ ∀ d ∈ ds, cleanD d = true
  | [] => by simp [cleanDs]
  | d :: ds => by simp [cleanDs, cleanDs_iff (ds := ds)]
end K18

namespace K18
open PySem L2 Dl K17
local macro_rules | `(tactic| walk_at "ds") => `(tactic| repeat' with_reducible first
  | refine iNeg ?_ | refine lstP_i (by assumption) ?_ | refine lstP_i updG_same ?_ | refine dctP_i (by assumption) ?_ | refine dctP_i updG_same ?_ | refine isN_T ?_ | refine isN_F (by with_unfolding_all rfl) ?_ | refine iRev ?_ | refine revT ?_ | refine revL ?_ | refine iCallG ?_ | refine iSeq ?_ | refine iNext ?_ | refine iIfS ?_ | refine iRet ?_ | refine iRetN ?_ | refine iDrop ?_ | refine iAsg ?_ | refine iPar ?_ | refine iGNm ?_
  | refine iGTp (by with_unfolding_all rfl) ?_ | refine iGsCons ?_ | refine iGsNil ?_ | refine iGSb ?_ | refine iVar (by with_unfolding_all rfl) ?_ | refine iC ?_ | refine iNil ?_ | refine iCons ?_
  | refine iTup ?_ | refine lenOk (by with_unfolding_all rfl) ?_ | refine iFrz ?_ | refine iLst ?_ | refine frzEnd ?_ | refine frzT ?_ | refine frzL ?_ | refine slT ?_ | refine lstC_t ?_ | refine lstC_l ?_ | refine iOp ?_ | refine iTst ?_ | refine iTru ?_ | refine truB ?_
  | refine iAnd ?_ | refine iOr ?_ | refine iNot ?_ | refine iAndVK ?_ | refine andVT ?_ | refine andVF ?_ | refine andVDT (by decide) ?_ | refine andVDF (by decide) ?_ | refine ifDT (by decide) ?_ | refine ifDF (by decide) ?_ | refine iNotV ?_ | refine iIf ?_ | refine ifT ?_ | refine ifF ?_ | refine iCall ?_ | refine iCB ?_ | refine iMt ?_
  | refine iSl ?_ | refine iP ?_ | refine iNoP ?_ | refine iStar ?_ | refine iDGet ?_ | refine iIsi ?_ | refine iMatch ?_ | refine iFor ?_ | refine iISq ?_
  | refine rIx_i (by with_unfolding_all rfl) (by with_unfolding_all rfl) ?_ | refine rIx_i (by with_unfolding_all rfl) atI_0 ?_ | refine eq_strT ?_ | refine eq_strF (by with_unfolding_all rfl) ?_ | refine ne_strT ?_ | refine ne_strF (by with_unfolding_all rfl) ?_ | refine eq_ii ?_ | refine ne_ii ?_
  | refine caT ?_ | refine caF (by with_unfolding_all rfl) ?_ | refine caN ?_ | refine add_ii ?_ | refine int0 ?_ | refine len_t ?_ | refine len_l ?_ | refine tupC_t ?_ | refine tupC_l ?_
  | refine intC_i ?_ | refine intC_b ?_ | refine max2_ii ?_ | refine min2_ii ?_ | refine keyP_s ?_ | refine keyP_i ?_ | refine iIRg1 ?_ | refine iIRg2 ?_ | refine iIEnT ?_ | refine add_llb (by with_unfolding_all rfl) ?_ | refine add_ttb (by with_unfolding_all rfl) ?_
  | refine inn_T (by with_unfolding_all rfl) (by decide +kernel) (by decide +kernel) (by decide +kernel) ?_ | refine inn_F (by with_unfolding_all rfl) (by decide +kernel) (by decide +kernel) (by decide +kernel) ?_
  | refine isi_T (by with_unfolding_all rfl) (by decide +kernel) ?_ | refine isi_F (by with_unfolding_all rfl) (by decide +kernel) ?_ | refine iPsC ?_ | refine iPsN ?_ | refine ifNT ?_ | refine ifNF ?_
  | refine andVDT (by with_reducible_and_instances first | omega | (simp only [List.length_cons, List.length_nil]; omega)) ?_ | refine andVDF (by with_reducible_and_instances first | omega | (simp only [List.length_cons, List.length_nil]; omega)) ?_ | refine ifDT (by with_reducible_and_instances first | omega | (simp only [List.length_cons, List.length_nil]; omega)) ?_ | refine ifDF (by with_reducible_and_instances first | omega | (simp only [List.length_cons, List.length_nil]; omega)) ?_
  | refine ifNDT (by with_reducible_and_instances first | omega | (simp only [List.length_cons, List.length_nil]; omega)) ?_ | refine ifNDF (by with_reducible_and_instances first | omega | (simp only [List.length_cons, List.length_nil]; omega)) ?_
  | fail "stuck")
theorem sgD_inj : ∀ {s t : Sg}, sgD s = sgD t → s = t
  | .tick, t, h => by cases t <;> simp [sgD] at h ⊢
  | .more, t, h => by cases t <;> simp [sgD] at h ⊢
  | .fin, t, h => by cases t <;> simp [sgD] at h ⊢
  | .many n, t, h => by cases t <;> simp [sgD] at h ⊢; exact h
  | .way n, t, h => by cases t <;> simp [sgD] at h ⊢; omega
  | .left s, t, h => by cases t <;> simp [sgD] at h ⊢; exact sgD_inj h
  | .right s, t, h => by cases t <;> simp [sgD] at h ⊢; exact sgD_inj h
def sgPos : Sg → Prop
  | .many n => 0 ≤ n
  | .left s => sgPos s
  | .right s => sgPos s
  | _ => True
mutual
theorem nx_pos {B : Int} : ∀ (w : Wk), okW B w → ∀ s ∈ nxW w, sgPos s
  | .tick n, h, s, hs => by rw [nxW, List.mem_singleton] at hs; subst hs; trivial
  | .sme a b t, h, s, hs => by
    rw [okW] at h
    rw [nxW] at hs
    split at hs
    · obtain ⟨n, rfl, h1, h2⟩ := manyS_mem hs; rw [sgPos]; omega
    · rcases List.mem_append.mp hs with q | q <;> split at q <;> first | cases q; done | (rw [List.mem_singleton] at q; subst q; trivial)
  | .lop a b t w, h, s, hs => by
    rw [okW] at h
    rw [nxW] at hs
    split at hs
    · obtain ⟨n, rfl, h1, h2⟩ := manyS_mem hs; rw [sgPos]; omega
    · rcases List.mem_append.mp hs with q | q <;> split at q <;> first | cases q; done | (rw [List.mem_singleton] at q; subst q; trivial)
  | .eit ws, h, s, hs => by rw [nxW] at hs; obtain ⟨i, hi, rfl⟩ := List.mem_map.mp hs; trivial
  | .row ws, h, s, hs => by rw [okW] at h; rw [nxW] at hs; exact nxs_pos ws h s hs
  | .bes a b, h, s, hs => by
    rw [okW] at h
    rw [nxW] at hs
    rcases List.mem_append.mp hs with q | q
    · obtain ⟨t, ht, rfl⟩ := List.mem_map.mp q; rw [sgPos]; exact nx_pos a h.1 t ht
    · obtain ⟨t, ht, rfl⟩ := List.mem_map.mp q; rw [sgPos]; exact nx_pos b h.2 t ht
theorem nxs_pos {B : Int} : ∀ (ws : List Wk), okWs B ws → ∀ s ∈ nxWs ws, sgPos s
  | [], h, s, hs => by simp [nxWs] at hs
  | w :: ws, h, s, hs => by rw [okWs] at h; rw [nxWs] at hs; exact nx_pos w h.1 s hs
end
open Classical in
noncomputable def wk1 (w : Wk) (d : D) : Option Wk := if h : ∃ s, s ∈ nxW w ∧ sgD s = d then some (tidyW (behW w h.choose)) else none
theorem wk1_of {w : Wk} {s : Sg} (h : s ∈ nxW w) : wk1 w (sgD s) = some (tidyW (behW w s)) := by
  unfold wk1
  have k : ∃ t, t ∈ nxW w ∧ sgD t = sgD s := ⟨s, h, rfl⟩
  rw [dif_pos k, sgD_inj k.choose_spec.2]
theorem wk1_no {w : Wk} {d : D} (h : ¬ ∃ s, s ∈ nxW w ∧ sgD s = d) : wk1 w d = none := by unfold wk1; rw [dif_neg h]
noncomputable def lefts : Wk → List D → List Wk
  | _, [] => []
  | w, d :: ds => match wk1 w d with
    | some v => v :: lefts v ds
    | none => []
def BdT (w : Wk) : Prop := Bd w ∧ dpW w ≤ 16
theorem BdT.step {w v : Wk} {d : D} (h : BdT w) (e : wk1 w d = some v) : BdT v := by
  by_cases k : ∃ s, s ∈ nxW w ∧ sgD s = d
  · obtain ⟨s, hs, rfl⟩ := k
    rw [wk1_of hs] at e
    cases e
    exact h.1.after h.2 hs
  · rw [wk1_no k] at e; cases e
noncomputable def lastW (w : Wk) (ds : List D) : Wk := (lefts w ds).getLast?.getD w
def Comes (w : Wk) (ds : List D) : Prop := (lefts w ds).length = ds.length
theorem lefts_some {w v : Wk} {d : D} {ds : List D} (e : wk1 w d = some v) : lefts w (d :: ds) = v :: lefts v ds := by rw [lefts, e]
theorem lefts_none {w : Wk} {d : D} {ds : List D} (e : wk1 w d = none) : lefts w (d :: ds) = [] := by rw [lefts, e]
theorem lastW_some {w v : Wk} {d : D} {ds : List D} (e : wk1 w d = some v) : lastW w (d :: ds) = lastW v ds := by
  unfold lastW
  rw [lefts_some e]
  cases h : lefts v ds with
  | nil => rfl
  | cons x xs => rw [List.getLast?_cons_cons, ← h]; cases h2 : (lefts v ds).getLast? with
    | none => rw [h] at h2; simp at h2
    | some y => rfl
theorem Comes.bd {w : Wk} (h : BdT w) : ∀ {ds : List D}, BdT (lastW w ds) := by
  intro ds
  induction ds generalizing w with
  | nil => exact h
  | cons d ds ih =>
    cases e : wk1 w d with
    | none => unfold lastW; rw [lefts_none e]; exact h
    | some v => rw [lastW_some e]; exact ih (h.step e)
structure Th (d : D) : Prop where
  cl : cleanD d = true
  sm : smD d = true
  dp : depD d ≤ 40
  wt : wtD d ≤ 400000
theorem Th.ok {d : D} (h : Th d) : okD d := okD_of h.sm (by have := h.dp; omega)
theorem Th.shw {d : D} (h : Th d) : ShwA d := by
  refine ⟨h.ok, sm_few d h.sm, ?_⟩
  have e := sm_weight d h.sm
  have h1 := h.dp
  have h2 := h.wt
  have hl : PyData.layable0 (pyD d) = true := by
    unfold PyData.layable0
    rw [lay_py d (sm_pure d h.sm), depth_py, decide_eq_true (by omega), decide_eq_true (by omega)]
    rfl
  have := PyProof.Rows.shown_le13 hl (sm_short d h.sm)
  unfold shD
  have e2 : sizeLine = 16777216 := by decide
  omega
theorem cl_sg : ∀ s : Sg, cleanD (sgD s) = true
  | .tick => by decide +kernel
  | .more => by decide +kernel
  | .fin => by decide +kernel
  | .many n => by
    have : cleanS "many" = true := by decide +kernel
    simp [sgD, cleanD, cleanDs, this]
  | .way n => by
    have : cleanS "way" = true := by decide +kernel
    simp [sgD, cleanD, cleanDs, this]
  | .left s => by
    have : cleanS "left" = true := by decide +kernel
    simp [sgD, cleanD, cleanDs, this, cl_sg s]
  | .right s => by
    have : cleanS "right" = true := by decide +kernel
    simp [sgD, cleanD, cleanDs, this, cl_sg s]
theorem _root_.K17.Bd.th {w : Wk} (h : Bd w) {s : Sg} (hs : s ∈ nxW w) : Th (sgD s) := by
  have k := nx_ok (B := 999) (by decide) w h.o (by have := h.z; omega) s hs
  have h1 := k.dp
  have h2 := k.wt
  have h3 := h.dp
  exact ⟨cl_sg s, k.sm, by omega, by omega⟩
end K18

namespace K18
open PySem L2 Dl K17
local macro_rules | `(tactic| walk_at "ds") => `(tactic| repeat' with_reducible first
  | refine iNeg ?_ | refine lstP_i (by assumption) ?_ | refine lstP_i updG_same ?_ | refine dctP_i (by assumption) ?_ | refine dctP_i updG_same ?_ | refine isN_T ?_ | refine isN_F (by with_unfolding_all rfl) ?_ | refine iRev ?_ | refine revT ?_ | refine revL ?_ | refine iCallG ?_ | refine iSeq ?_ | refine iNext ?_ | refine iIfS ?_ | refine iRet ?_ | refine iRetN ?_ | refine iDrop ?_ | refine iAsg ?_ | refine iPar ?_ | refine iGNm ?_
  | refine iGTp (by with_unfolding_all rfl) ?_ | refine iGsCons ?_ | refine iGsNil ?_ | refine iGSb ?_ | refine iVar (by with_unfolding_all rfl) ?_ | refine iC ?_ | refine iNil ?_ | refine iCons ?_
  | refine iTup ?_ | refine lenOk (by with_unfolding_all rfl) ?_ | refine iFrz ?_ | refine iLst ?_ | refine frzEnd ?_ | refine frzT ?_ | refine frzL ?_ | refine slT ?_ | refine lstC_t ?_ | refine lstC_l ?_ | refine iOp ?_ | refine iTst ?_ | refine iTru ?_ | refine truB ?_
  | refine iAnd ?_ | refine iOr ?_ | refine iNot ?_ | refine iAndVK ?_ | refine andVT ?_ | refine andVF ?_ | refine andVDT (by decide) ?_ | refine andVDF (by decide) ?_ | refine ifDT (by decide) ?_ | refine ifDF (by decide) ?_ | refine iNotV ?_ | refine iIf ?_ | refine ifT ?_ | refine ifF ?_ | refine iCall ?_ | refine iCB ?_ | refine iMt ?_
  | refine iSl ?_ | refine iP ?_ | refine iNoP ?_ | refine iStar ?_ | refine iDGet ?_ | refine iIsi ?_ | refine iMatch ?_ | refine iFor ?_ | refine iISq ?_
  | refine rIx_i (by with_unfolding_all rfl) (by with_unfolding_all rfl) ?_ | refine rIx_i (by with_unfolding_all rfl) atI_0 ?_ | refine eq_strT ?_ | refine eq_strF (by with_unfolding_all rfl) ?_ | refine ne_strT ?_ | refine ne_strF (by with_unfolding_all rfl) ?_ | refine eq_ii ?_ | refine ne_ii ?_
  | refine caT ?_ | refine caF (by with_unfolding_all rfl) ?_ | refine caN ?_ | refine add_ii ?_ | refine int0 ?_ | refine len_t ?_ | refine len_l ?_ | refine tupC_t ?_ | refine tupC_l ?_
  | refine intC_i ?_ | refine intC_b ?_ | refine max2_ii ?_ | refine min2_ii ?_ | refine keyP_s ?_ | refine keyP_i ?_ | refine iIRg1 ?_ | refine iIRg2 ?_ | refine iIEnT ?_ | refine add_llb (by with_unfolding_all rfl) ?_ | refine add_ttb (by with_unfolding_all rfl) ?_
  | refine inn_T (by with_unfolding_all rfl) (by decide +kernel) (by decide +kernel) (by decide +kernel) ?_ | refine inn_F (by with_unfolding_all rfl) (by decide +kernel) (by decide +kernel) (by decide +kernel) ?_
  | refine isi_T (by with_unfolding_all rfl) (by decide +kernel) ?_ | refine isi_F (by with_unfolding_all rfl) (by decide +kernel) ?_ | refine iPsC ?_ | refine iPsN ?_ | refine ifNT ?_ | refine ifNF ?_
  | refine andVDT (by with_reducible_and_instances first | omega | (simp only [List.length_cons, List.length_nil]; omega)) ?_ | refine andVDF (by with_reducible_and_instances first | omega | (simp only [List.length_cons, List.length_nil]; omega)) ?_ | refine ifDT (by with_reducible_and_instances first | omega | (simp only [List.length_cons, List.length_nil]; omega)) ?_ | refine ifDF (by with_reducible_and_instances first | omega | (simp only [List.length_cons, List.length_nil]; omega)) ?_
  | refine ifNDT (by with_reducible_and_instances first | omega | (simp only [List.length_cons, List.length_nil]; omega)) ?_ | refine ifNDF (by with_reducible_and_instances first | omega | (simp only [List.length_cons, List.length_nil]; omega)) ?_
  | fail "stuck")
mutual
def mW : Wk → Nat
  | .tick n => n.toNat
  | .sme _ b _ => b.toNat + 1
  | .lop _ b _ w => b.toNat * (mW w + 1) + 1
  | .eit ws => 1 + mWs ws
  | .row ws => mWs ws
  | .bes a b => mW a + mW b
def mWs : List Wk → Nat
  | [] => 0
  | w :: ws => mW w + mWs ws
end
theorem mWs_app (a b : List Wk) : mWs (a ++ b) = mWs a + mWs b := by
  induction a with
  | nil => simp [mWs]
  | cons x xs ih => simp only [List.cons_append, mWs, ih]; omega
theorem mWs_rep (n : Nat) (w : Wk) : mWs (List.replicate n w) = n * mW w := by
  induction n with
  | zero => simp [mWs]
  | succ n ih => rw [List.replicate_succ, mWs, ih, Nat.succ_mul]; omega
theorem mWs_mem : ∀ {ws : List Wk} {w : Wk}, w ∈ ws → mW w ≤ mWs ws
  | x :: xs, w, h => by
    rcases List.mem_cons.mp h with e | e
    · subst e; simp only [mWs]; omega
    · have := mWs_mem e; simp only [mWs]; omega
theorem inRow_m {w : Wk} : mWs (inRow w) = mW w := by
  cases w <;> simp only [inRow, mWs, mW] <;> omega
mutual
theorem tidy_m : ∀ w : Wk, mW (tidyW w) ≤ mW w
  | .tick _ => by simp [tidyW]
  | .sme _ _ _ => by simp [tidyW]
  | .lop _ _ _ _ => by simp [tidyW]
  | .eit _ => by simp [tidyW]
  | .row ws => by
    have k := flat_m ws
    rcases mkRow_cases (flatW ws) with ⟨w, e, f⟩ | f
    · rw [tidyW, f]; rw [e] at k; simp only [mWs, mW] at k ⊢; omega
    · rw [tidyW, f]; simp only [mW]; omega
  | .bes a b => by
    have h1 := tidy_m a
    have h2 := tidy_m b
    rw [tidyW]
    split
    · simp only [mW, mWs]; omega
    · simp only [mW]; omega
theorem flat_m : ∀ ws : List Wk, mWs (flatW ws) ≤ mWs ws
  | [] => by simp [flatW]
  | w :: ws => by
    have h1 := tidy_m w
    have h2 := flat_m ws
    have h3 := inRow_m (w := tidyW w)
    rw [flatW, mWs_app, mWs]
    omega
end
theorem tk_m (n : Int) : mW (tkW n) = n.toNat := by
  unfold tkW
  split
  · rw [mW]
  · rw [mW, mWs]; omega
mutual
theorem beh_m {B : Int} : ∀ (w : Wk) (s : Sg), okW B w → s ∈ nxW w → mW (behW w s) < mW w
  | .tick n, s, h, hs => by
    rw [okW] at h
    rw [show behW (.tick n) s = tkW (n - 1) from by simp [behW], tk_m, mW]; omega
  | .sme a b true, s, h, hs => by
    rw [okW] at h
    rw [nxW, if_pos rfl] at hs
    obtain ⟨n, rfl, h1, h2⟩ := manyS_mem hs
    rw [show behW (.sme a b true) (.many n) = tkW n from by simp [behW], tk_m, mW]; omega
  | .sme a b false, s, h, hs => by
    rw [okW] at h
    rw [nxW, if_neg (by decide)] at hs
    rcases List.mem_append.mp hs with q | q
    · split at q
      · rw [List.mem_singleton] at q; subst q
        rw [show behW (.sme a b false) .tick = .sme (dec0 a) (b - 1) false from by simp [behW], mW, mW]; omega
      · cases q
    · split at q
      · rw [List.mem_singleton] at q; subst q
        rw [show behW (.sme a b false) .fin = .row [] from by simp [behW]]; simp only [mW, mWs]; omega
      · cases q
  | .lop a b true w, s, h, hs => by
    rw [okW] at h
    rw [nxW, if_pos rfl] at hs
    obtain ⟨n, rfl, h1, h2⟩ := manyS_mem hs
    rw [show behW (.lop a b true w) (.many n) = .row (List.replicate n.toNat w) from by simp [behW]]; simp only [mW, mWs_rep]
    have : n.toNat * mW w ≤ b.toNat * (mW w + 1) := Nat.mul_le_mul (by omega) (by omega)
    omega
  | .lop a b false w, s, h, hs => by
    rw [okW] at h
    rw [nxW, if_neg (by decide)] at hs
    rcases List.mem_append.mp hs with q | q
    · split at q
      · rename_i hb
        rw [List.mem_singleton] at q; subst q
        obtain ⟨m, hm⟩ : ∃ m, b.toNat = m + 1 := ⟨b.toNat - 1, by omega⟩
        have hm2 : (b - 1).toNat = m := by omega
        rw [show behW (.lop a b false w) .more = .row [w, .lop (dec0 a) (b - 1) false w] from by simp [behW]]
        simp only [mW, mWs, hm, hm2, Nat.add_mul, Nat.mul_add]; omega
      · cases q
    · split at q
      · rw [List.mem_singleton] at q; subst q
        rw [show behW (.lop a b false w) .fin = .row [] from by simp [behW]]; simp only [mW, mWs]; omega
      · cases q
  | .eit ws, s, h, hs => by
    rw [nxW] at hs
    obtain ⟨i, hi, rfl⟩ := List.mem_map.mp hs
    rw [List.mem_range] at hi
    have e : ws.getD i (.row []) = ws[i] := by simp [List.getD, hi]
    rw [show behW (.eit ws) (.way i) = ws.getD i (.row []) from by simp [behW], e, mW]
    have := mWs_mem (List.getElem_mem hi)
    omega
  | .row ws, s, h, hs => by
    rw [okW] at h
    rw [nxW] at hs
    rw [show behW (.row ws) s = .row (behWs ws s) from by simp [behW], mW, mW]
    exact behs_m ws s h hs
  | .bes a b, s, h, hs => by
    rw [okW] at h
    rw [nxW] at hs
    rcases List.mem_append.mp hs with q | q
    · obtain ⟨t, ht, rfl⟩ := List.mem_map.mp q
      have := beh_m a t h.1 ht
      rw [show behW (.bes a b) (.left t) = .bes (behW a t) b from by simp [behW], mW, mW]; omega
    · obtain ⟨t, ht, rfl⟩ := List.mem_map.mp q
      have := beh_m b t h.2 ht
      rw [show behW (.bes a b) (.right t) = .bes a (behW b t) from by simp [behW], mW, mW]; omega
theorem behs_m {B : Int} : ∀ (ws : List Wk) (s : Sg), okWs B ws → s ∈ nxWs ws → mWs (behWs ws s) < mWs ws
  | [], s, h, hs => by simp [nxWs] at hs
  | w :: ws, s, h, hs => by
    rw [okWs] at h
    rw [nxWs] at hs
    have := beh_m w s h.1 hs
    rw [show behWs (w :: ws) s = behW w s :: ws from by simp [behWs], mWs, mWs]; omega
end
mutual
theorem m_le_z : ∀ w : Wk, okW 12 w → mW w ≤ 7 * zW w
  | .tick n, h => by rw [okW] at h; rw [mW, zW]; omega
  | .sme a b t, h => by rw [okW] at h; rw [mW, zW]; omega
  | .lop a b t w, h => by
    rw [okW] at h
    have k := m_le_z w h.2.2.2
    rw [mW, zW]
    have : b.toNat * (mW w + 1) ≤ (b.toNat + 1) * (7 * (zW w + 1)) := Nat.mul_le_mul (by omega) (by omega)
    rw [show (b.toNat + 1) * (7 * (zW w + 1)) = 7 * ((b.toNat + 1) * (zW w + 1)) from by rw [Nat.mul_left_comm]] at this
    omega
  | .eit ws, h => by rw [okW] at h; have := ms_le_z ws h.2; rw [mW, zW]; omega
  | .row ws, h => by rw [okW] at h; have := ms_le_z ws h; rw [mW, zW]; omega
  | .bes a b, h => by rw [okW] at h; have := m_le_z a h.1; have := m_le_z b h.2; rw [mW, zW]; omega
theorem ms_le_z : ∀ ws : List Wk, okWs 12 ws → mWs ws ≤ 7 * zWs ws
  | [], _ => by simp [mWs]
  | w :: ws, h => by rw [okWs] at h; have := m_le_z w h.1; have := ms_le_z ws h.2; rw [mWs, zWs]; omega
end
theorem _root_.K17.Bd.m {w : Wk} (h : Bd w) : mW w ≤ 1890 := by have := m_le_z w h.ok; have := h.z; omega
def aft (w : Wk) (s : Sg) : Wk := tidyW (behW w s)
theorem aft_m {B : Int} {w : Wk} {s : Sg} (h : okW B w) (hs : s ∈ nxW w) : mW (aft w s) < mW w := Nat.lt_of_le_of_lt (tidy_m _) (beh_m w s h hs)
theorem aft_ok {B : Int} {w : Wk} {s : Sg} (h : okW B w) (hs : s ∈ nxW w) : okW B (aft w s) := tidy_ok _ (beh_ok w s h hs).ok
theorem BdT.aft {w : Wk} {s : Sg} (h : BdT w) (hs : s ∈ nxW w) : BdT (aft w s) := h.1.after h.2 hs
theorem BdT.o {w : Wk} (h : BdT w) : okW 12 w := h.1.ok
section
variable {α : Type} (f : List (Sg × α) → α)
def foldF : Nat → Wk → α
  | 0, _ => f []
  | n + 1, w => f ((nxW w).map fun s => (s, foldF n (aft w s)))
def foldW (w : Wk) : α := foldF f (mW w) w
theorem nx_zero {B : Int} {w : Wk} (h : okW B w) (h0 : mW w = 0) : nxW w = [] := by
  cases e : nxW w with
  | nil => rfl
  | cons s ss => have := aft_m h (s := s) (by rw [e]; exact List.mem_cons_self ..); omega
theorem foldF_stable {B : Int} : ∀ (n : Nat) (w : Wk), okW B w → mW w ≤ n → foldF f n w = foldW f w := by
  intro n
  induction n using Nat.strongRecOn with
  | _ n ih =>
    intro w h hm
    unfold foldW
    cases hw : mW w with
    | zero =>
      have e := nx_zero h hw
      cases n with
      | zero => rfl
      | succ n => rw [foldF, foldF, e]; rfl
    | succ m =>
      cases n with
      | zero => omega
      | succ n =>
        rw [foldF, foldF]
        congr 1
        refine List.map_congr_left fun s hs => ?_
        have h1 := aft_m h hs
        have h2 := aft_ok h hs
        rw [ih n (by omega) _ h2 (by omega)]
        by_cases q : m < n + 1
        · rw [ih m (by omega) _ h2 (by omega)]
        · have : m = n := by omega
          subst this
          rw [ih m (by omega) _ h2 (by omega)]
theorem foldW_eq {B : Int} {w : Wk} (h : okW B w) : foldW f w = f ((nxW w).map fun s => (s, foldW f (aft w s))) := by
  have : foldW f w = foldF f (mW w + 1) w := (foldF_stable f _ w h (by omega)).symm
  rw [this, foldF]
  congr 1
  refine List.map_congr_left fun s hs => ?_
  rw [foldF_stable f _ _ (aft_ok h hs) (by have := aft_m h hs; omega)]
end
def runsG : List (Sg × List (List Sg)) → List (List Sg)
  | [] => [[]]
  | l => l.flatMap fun q => q.2.map (q.1 :: ·)
def runsW (w : Wk) : List (List Sg) := foldW runsG w
def begG (l : List (Sg × Nat)) : Nat := 1 + (l.map (·.2)).sum
def begW (w : Wk) : Nat := foldW begG w
theorem runsW_eq {B : Int} {w : Wk} (h : okW B w) : runsW w = if (nxW w).isEmpty = true then [[]] else (nxW w).flatMap fun s => (runsW (aft w s)).map (s :: ·) := by
  unfold runsW
  rw [foldW_eq _ h]
  cases nxW w with
  | nil => rfl
  | cons s ss => simp only [List.map_cons, runsG, List.isEmpty_cons]; rw [if_neg (by decide), ← List.map_cons (f := fun s => (s, foldW runsG (aft w s))), List.flatMap_map]
theorem begW_eq {B : Int} {w : Wk} (h : okW B w) : begW w = 1 + ((nxW w).map fun s => begW (aft w s)).sum := by
  unfold begW
  rw [foldW_eq _ h, begG, List.map_map]
  rfl
inductive Path : Wk → List Sg → Wk → Prop
  | nil (w : Wk) : Path w [] w
  | cons {w v : Wk} {s : Sg} {ss : List Sg} (h : s ∈ nxW w) (k : Path (aft w s) ss v) : Path w (s :: ss) v
theorem Path.snoc {w v : Wk} {ss : List Sg} (h : Path w ss v) {s : Sg} (hs : s ∈ nxW v) : Path w (ss ++ [s]) (aft v s) := by
  induction h with
  | nil w => exact .cons hs (.nil _)
  | cons h k ih => exact .cons h (ih hs)
theorem Path.bd {w v : Wk} {ss : List Sg} (h : Path w ss v) (b : BdT w) : BdT v := by
  induction h with
  | nil w => exact b
  | cons h k ih => exact ih (b.aft h)
theorem Path.m {w v : Wk} {ss : List Sg} (h : Path w ss v) (b : BdT w) : mW v + ss.length ≤ mW w := by
  induction h with
  | nil w => simp
  | cons h k ih => have := ih (b.aft h); have := aft_m b.o h; simp only [List.length_cons]; omega
theorem Path.th {w v : Wk} {ss : List Sg} (h : Path w ss v) (b : BdT w) : ∀ s ∈ ss, Th (sgD s) ∧ sgPos s := by
  induction h with
  | nil w => intro s hs; cases hs
  | @cons w v s ss h k ih =>
    intro t ht
    rcases List.mem_cons.mp ht with rfl | ht
    · exact ⟨b.1.th h, nx_pos w b.o t h⟩
    · exact ih (b.aft h) t ht
end K18

namespace K18
open PySem L2 Dl K17
local macro_rules | `(tactic| walk_at "ds") => `(tactic| repeat' with_reducible first
  | refine iNeg ?_ | refine lstP_i (by assumption) ?_ | refine lstP_i updG_same ?_ | refine dctP_i (by assumption) ?_ | refine dctP_i updG_same ?_ | refine isN_T ?_ | refine isN_F (by with_unfolding_all rfl) ?_ | refine iRev ?_ | refine revT ?_ | refine revL ?_ | refine iCallG ?_ | refine iSeq ?_ | refine iNext ?_ | refine iIfS ?_ | refine iRet ?_ | refine iRetN ?_ | refine iDrop ?_ | refine iAsg ?_ | refine iPar ?_ | refine iGNm ?_
  | refine iGTp (by with_unfolding_all rfl) ?_ | refine iGsCons ?_ | refine iGsNil ?_ | refine iGSb ?_ | refine iVar (by with_unfolding_all rfl) ?_ | refine iC ?_ | refine iNil ?_ | refine iCons ?_
  | refine iTup ?_ | refine lenOk (by with_unfolding_all rfl) ?_ | refine iFrz ?_ | refine iLst ?_ | refine frzEnd ?_ | refine frzT ?_ | refine frzL ?_ | refine slT ?_ | refine lstC_t ?_ | refine lstC_l ?_ | refine iOp ?_ | refine iTst ?_ | refine iTru ?_ | refine truB ?_
  | refine iAnd ?_ | refine iOr ?_ | refine iNot ?_ | refine iAndVK ?_ | refine andVT ?_ | refine andVF ?_ | refine andVDT (by decide) ?_ | refine andVDF (by decide) ?_ | refine ifDT (by decide) ?_ | refine ifDF (by decide) ?_ | refine iNotV ?_ | refine iIf ?_ | refine ifT ?_ | refine ifF ?_ | refine iCall ?_ | refine iCB ?_ | refine iMt ?_
  | refine iSl ?_ | refine iP ?_ | refine iNoP ?_ | refine iStar ?_ | refine iDGet ?_ | refine iIsi ?_ | refine iMatch ?_ | refine iFor ?_ | refine iISq ?_
  | refine rIx_i (by with_unfolding_all rfl) (by with_unfolding_all rfl) ?_ | refine rIx_i (by with_unfolding_all rfl) atI_0 ?_ | refine eq_strT ?_ | refine eq_strF (by with_unfolding_all rfl) ?_ | refine ne_strT ?_ | refine ne_strF (by with_unfolding_all rfl) ?_ | refine eq_ii ?_ | refine ne_ii ?_
  | refine caT ?_ | refine caF (by with_unfolding_all rfl) ?_ | refine caN ?_ | refine add_ii ?_ | refine int0 ?_ | refine len_t ?_ | refine len_l ?_ | refine tupC_t ?_ | refine tupC_l ?_
  | refine intC_i ?_ | refine intC_b ?_ | refine max2_ii ?_ | refine min2_ii ?_ | refine keyP_s ?_ | refine keyP_i ?_ | refine iIRg1 ?_ | refine iIRg2 ?_ | refine iIEnT ?_ | refine add_llb (by with_unfolding_all rfl) ?_ | refine add_ttb (by with_unfolding_all rfl) ?_
  | refine inn_T (by with_unfolding_all rfl) (by decide +kernel) (by decide +kernel) (by decide +kernel) ?_ | refine inn_F (by with_unfolding_all rfl) (by decide +kernel) (by decide +kernel) (by decide +kernel) ?_
  | refine isi_T (by with_unfolding_all rfl) (by decide +kernel) ?_ | refine isi_F (by with_unfolding_all rfl) (by decide +kernel) ?_ | refine iPsC ?_ | refine iPsN ?_ | refine ifNT ?_ | refine ifNF ?_
  | refine andVDT (by with_reducible_and_instances first | omega | (simp only [List.length_cons, List.length_nil]; omega)) ?_ | refine andVDF (by with_reducible_and_instances first | omega | (simp only [List.length_cons, List.length_nil]; omega)) ?_ | refine ifDT (by with_reducible_and_instances first | omega | (simp only [List.length_cons, List.length_nil]; omega)) ?_ | refine ifDF (by with_reducible_and_instances first | omega | (simp only [List.length_cons, List.length_nil]; omega)) ?_
  | refine ifNDT (by with_reducible_and_instances first | omega | (simp only [List.length_cons, List.length_nil]; omega)) ?_ | refine ifNDF (by with_reducible_and_instances first | omega | (simp only [List.length_cons, List.length_nil]; omega)) ?_
  | fail "stuck")
theorem nx_le {w : Wk} (h : BdT w) : (nxW w).length ≤ 1755 := h.1.nxs.2.2.2
end K18

namespace K18
open PySem L2 Dl K17
local macro_rules | `(tactic| walk_at "ds") => `(tactic| repeat' with_reducible first
  | refine iNeg ?_ | refine lstP_i (by assumption) ?_ | refine lstP_i updG_same ?_ | refine dctP_i (by assumption) ?_ | refine dctP_i updG_same ?_ | refine isN_T ?_ | refine isN_F (by with_unfolding_all rfl) ?_ | refine iRev ?_ | refine revT ?_ | refine revL ?_ | refine iCallG ?_ | refine iSeq ?_ | refine iNext ?_ | refine iIfS ?_ | refine iRet ?_ | refine iRetN ?_ | refine iDrop ?_ | refine iAsg ?_ | refine iPar ?_ | refine iGNm ?_
  | refine iGTp (by with_unfolding_all rfl) ?_ | refine iGsCons ?_ | refine iGsNil ?_ | refine iGSb ?_ | refine iVar (by with_unfolding_all rfl) ?_ | refine iC ?_ | refine iNil ?_ | refine iCons ?_
  | refine iTup ?_ | refine lenOk (by with_unfolding_all rfl) ?_ | refine iFrz ?_ | refine iLst ?_ | refine frzEnd ?_ | refine frzT ?_ | refine frzL ?_ | refine slT ?_ | refine lstC_t ?_ | refine lstC_l ?_ | refine iOp ?_ | refine iTst ?_ | refine iTru ?_ | refine truB ?_
  | refine iAnd ?_ | refine iOr ?_ | refine iNot ?_ | refine iAndVK ?_ | refine andVT ?_ | refine andVF ?_ | refine andVDT (by decide) ?_ | refine andVDF (by decide) ?_ | refine ifDT (by decide) ?_ | refine ifDF (by decide) ?_ | refine iNotV ?_ | refine iIf ?_ | refine ifT ?_ | refine ifF ?_ | refine iCall ?_ | refine iCB ?_ | refine iMt ?_
  | refine iSl ?_ | refine iP ?_ | refine iNoP ?_ | refine iStar ?_ | refine iDGet ?_ | refine iIsi ?_ | refine iMatch ?_ | refine iFor ?_ | refine iISq ?_
  | refine rIx_i (by with_unfolding_all rfl) (by with_unfolding_all rfl) ?_ | refine rIx_i (by with_unfolding_all rfl) atI_0 ?_ | refine eq_strT ?_ | refine eq_strF (by with_unfolding_all rfl) ?_ | refine ne_strT ?_ | refine ne_strF (by with_unfolding_all rfl) ?_ | refine eq_ii ?_ | refine ne_ii ?_
  | refine caT ?_ | refine caF (by with_unfolding_all rfl) ?_ | refine caN ?_ | refine add_ii ?_ | refine int0 ?_ | refine len_t ?_ | refine len_l ?_ | refine tupC_t ?_ | refine tupC_l ?_
  | refine intC_i ?_ | refine intC_b ?_ | refine max2_ii ?_ | refine min2_ii ?_ | refine keyP_s ?_ | refine keyP_i ?_ | refine iIRg1 ?_ | refine iIRg2 ?_ | refine iIEnT ?_ | refine add_llb (by with_unfolding_all rfl) ?_ | refine add_ttb (by with_unfolding_all rfl) ?_
  | refine inn_T (by with_unfolding_all rfl) (by decide +kernel) (by decide +kernel) (by decide +kernel) ?_ | refine inn_F (by with_unfolding_all rfl) (by decide +kernel) (by decide +kernel) (by decide +kernel) ?_
  | refine isi_T (by with_unfolding_all rfl) (by decide +kernel) ?_ | refine isi_F (by with_unfolding_all rfl) (by decide +kernel) ?_ | refine iPsC ?_ | refine iPsN ?_ | refine ifNT ?_ | refine ifNF ?_
  | refine andVDT (by with_reducible_and_instances first | omega | (simp only [List.length_cons, List.length_nil]; omega)) ?_ | refine andVDF (by with_reducible_and_instances first | omega | (simp only [List.length_cons, List.length_nil]; omega)) ?_ | refine ifDT (by with_reducible_and_instances first | omega | (simp only [List.length_cons, List.length_nil]; omega)) ?_ | refine ifDF (by with_reducible_and_instances first | omega | (simp only [List.length_cons, List.length_nil]; omega)) ?_
  | refine ifNDT (by with_reducible_and_instances first | omega | (simp only [List.length_cons, List.length_nil]; omega)) ?_ | refine ifNDF (by with_reducible_and_instances first | omega | (simp only [List.length_cons, List.length_nil]; omega)) ?_
  | fail "stuck")
def runD (r : List Sg) : D := .tup (r.map sgD)
def pileD (q : List Sg × Wk) : D := .tup [runD q.1, toD q.2]
def RRs : List D → D → Prop := fun ds d => ∃ (w : Wk) (m : Int), ds = [toD w, .int m] ∧ Bd w ∧ 0 ≤ m ∧ m ≤ 100000 ∧ d = .lst (((runsW (tidyW w)).take (m.toNat + 1)).map runD)
structure PileR (w0 : Wk) (items : List (List Sg × Wk)) : Prop where
  all : ∀ q ∈ items, Path w0 q.1 q.2
  ix : ∀ (i : Nat) (q : List Sg × Wk), items[i]? = some q → i ≤ 1755 * (mW w0 - mW q.2)
theorem runs_le {w0 : Wk} (h0 : BdT w0) {q : List Sg × Wk} (h : Path w0 q.1 q.2) : q.1.length ≤ 1890 := by
  have := h.m h0
  have := h0.1.m
  omega
theorem sg_sum {l : List D} (h : ∀ x ∈ l, Th x ∧ depD x ≤ 38 ∧ wtD x ≤ 200) (hl : l.length ≤ 1900) : Th (.tup l) := by
  refine ⟨?_, ?_, ?_, ?_⟩
  · rw [cleanD, cleanDs_iff]; exact fun x hx => (h x hx).1.cl
  · rw [smD, smDs_iff]; exact fun x hx => (h x hx).1.sm
  · rw [depD]; have := depDs_le fun x hx => (h x hx).2.1; omega
  · rw [wtD]
    have h1 := wtDs_le fun x hx => (h x hx).2.2
    have h2 : l.length * (200 + 1) ≤ 1900 * (200 + 1) := Nat.mul_le_mul_right _ hl
    omega
theorem _root_.K17.Bd.th2 {w : Wk} (h : Bd w) {s : Sg} (hs : s ∈ nxW w) : Th (sgD s) ∧ depD (sgD s) ≤ 38 ∧ wtD (sgD s) ≤ 200 := by
  have k := nx_ok (B := 999) (by decide) w h.o (by have := h.z; omega) s hs
  have h1 := k.dp
  have h2 := k.wt
  have h3 := h.dp
  exact ⟨h.th hs, by omega, by omega⟩
theorem Path.th2 {w v : Wk} {ss : List Sg} (h : Path w ss v) (b : BdT w) : ∀ s ∈ ss, Th (sgD s) ∧ depD (sgD s) ≤ 38 ∧ wtD (sgD s) ≤ 200 := by
  induction h with
  | nil w => intro s hs; cases hs
  | @cons w v s ss h k ih =>
    intro t ht
    rcases List.mem_cons.mp ht with rfl | ht
    · exact b.1.th2 h
    · exact ih (b.aft h) t ht
theorem Path.thr {w v : Wk} {ss : List Sg} (h : Path w ss v) (b : BdT w) : Th (runD ss) := by
  refine sg_sum ?_ ?_
  · intro x hx; obtain ⟨s, hs, rfl⟩ := List.mem_map.mp hx; exact h.th2 b s hs
  · have : ss.length ≤ 1890 := runs_le b (q := (ss, v)) h
    rw [List.length_map]; omega
theorem pile_ok {w0 : Wk} (h0 : BdT w0) {items : List (List Sg × Wk)} (h : PileR w0 items) : okD (.lst (items.map pileD)) := by
  constructor
  · rw [pureD]
    have : smDs (items.map pileD) = true := by
      rw [smDs_iff]
      intro d hd
      obtain ⟨q, hq, rfl⟩ := List.mem_map.mp hd
      have hp := h.all q hq
      simp only [pileD, smD, smDs, Bool.and_true, Bool.and_eq_true]
      exact ⟨(hp.thr h0).sm, (hp.bd h0).1.sm⟩
    exact sms_pure _ this
  · rw [depD]
    have : depDs (items.map pileD) ≤ 41 := by
      refine depDs_le fun d hd => ?_
      obtain ⟨q, hq, rfl⟩ := List.mem_map.mp hd
      have hp := h.all q hq
      have h1 := (hp.thr h0).dp
      have h2 := (hp.bd h0).1.dep
      simp only [pileD, depD, depDs]
      simp only [runD] at h1
      rw [depD] at h1
      simp only [runD, depD]
      omega
    omega
theorem pile_len {w0 : Wk} (h0 : BdT w0) {items : List (List Sg × Wk)} (h : PileR w0 items) : items.length ≤ 3316951 := by
  rcases List.eq_nil_or_concat items with rfl | ⟨xs, x, rfl⟩
  · simp
  · rw [List.concat_eq_append] at *
    have := h.ix xs.length x (by simp)
    have h1 := h0.1.m
    have h2 : 1755 * (mW w0 - mW x.2) ≤ 1755 * 1890 := Nat.mul_le_mul_left _ (by omega)
    rw [List.length_append, List.length_singleton]; omega
theorem pile_push {w0 : Wk} (h0 : BdT w0) {xs : List (List Sg × Wk)} {q : List Sg × Wk} (h : PileR w0 (xs ++ [q])) : PileR w0 (xs ++ ((nxW q.2).reverse.map fun s => (q.1 ++ [s], aft q.2 s))) := by
  have hq := h.all q (by simp)
  have hqb := hq.bd h0
  constructor
  · intro y hy
    rcases List.mem_append.mp hy with k | k
    · exact h.all y (by simp [k])
    · obtain ⟨s, hs, rfl⟩ := List.mem_map.mp k
      exact hq.snoc (List.mem_reverse.mp hs)
  · intro i y hy
    rcases Nat.lt_or_ge i xs.length with k | k
    · refine h.ix i y ?_
      rw [List.getElem?_append_left k] at hy ⊢
      exact hy
    · rw [List.getElem?_append_right k] at hy
      have hlt : i - xs.length < (nxW q.2).length := by
        rcases Nat.lt_or_ge (i - xs.length) (nxW q.2).length with z | z
        · exact z
        · rw [List.getElem?_eq_none (by simpa using z)] at hy; cases hy
      have hm : y ∈ (nxW q.2).reverse.map fun s => (q.1 ++ [s], aft q.2 s) := List.mem_of_getElem? hy
      obtain ⟨s, hs, rfl⟩ := List.mem_map.mp hm
      have h1 := aft_m hqb.o (List.mem_reverse.mp hs)
      have h2 := h.ix xs.length q (by simp)
      have h3 := nx_le hqb
      have h4 := hq.m h0
      have h5 : 1755 * (mW w0 - mW q.2) + 1755 ≤ 1755 * (mW w0 - mW (aft q.2 s)) := by
        rw [← Nat.mul_succ]
        exact Nat.mul_le_mul_left _ (by omega)
      show i ≤ 1755 * (mW w0 - mW (aft q.2 s))
      omega
def outP (items : List (List Sg × Wk)) : List (List Sg) := items.reverse.flatMap fun q => (runsW q.2).map (q.1 ++ ·)
theorem outP_app (a b : List (List Sg × Wk)) : outP (a ++ b) = outP b ++ outP a := by
  unfold outP; rw [List.reverse_append, List.flatMap_append]
theorem outP_push {q : List Sg × Wk} (h : BdT q.2) (hne : nxW q.2 ≠ []) : outP ((nxW q.2).reverse.map fun s => (q.1 ++ [s], aft q.2 s)) = outP [q] := by
  unfold outP
  rw [← List.map_reverse, List.reverse_reverse, List.flatMap_map]
  simp only [List.reverse_singleton, List.flatMap_singleton]
  rw [runsW_eq h.o, if_neg (by simpa using hne), List.map_flatMap]
  congr 1
  funext s
  rw [List.map_map]
  congr 1
  funext r
  simp
theorem outP_end {q : List Sg × Wk} (h : BdT q.2) (he : nxW q.2 = []) : outP [q] = [q.1] := by
  unfold outP
  simp only [List.reverse_singleton, List.flatMap_singleton]
  rw [runsW_eq h.o, he]
  simp
def costP (items : List (List Sg × Wk)) : Nat := (items.map fun q => begW q.2).sum
theorem cost_push {xs : List (List Sg × Wk)} {q : List Sg × Wk} (h : BdT q.2) : costP (xs ++ ((nxW q.2).reverse.map fun s => (q.1 ++ [s], aft q.2 s))) + 1 = costP (xs ++ [q]) := by
  unfold costP
  rw [List.map_append, List.sum_append, List.map_append, List.sum_append, List.map_map]
  simp only [List.map_cons, List.map_nil, List.sum_cons, List.sum_nil]
  rw [begW_eq h.o]
  have : (((nxW q.2).reverse.map ((fun q => begW q.2) ∘ fun s => (q.1 ++ [s], aft q.2 s))).sum) = ((nxW q.2).map fun s => begW (aft q.2 s)).sum := by
    rw [List.map_reverse, List.sum_reverse]
    rfl
  omega

theorem law_runs_rd : ∀ ds G Q E, pSp RRs ds G Q E → r_law_runs (pSp RA) (pSp (RX 56)) (pSp (RT 60)) { nx := fun _ G' => Q .non G', rt := Q } (startD 8 ds) G := by
  rintro ds G Q E ⟨d, ⟨w, m, rfl, hw, hm, hm2, rfl⟩, hq⟩
  unfold r_law_runs
  have hz := hw.z
  have hd := hw.dp
  have h0 : BdT (tidyW w) := hw.tidy
  walk_at "ds"
  intro pf hpf
  walk_at "ds"
  refine ⟨_, rt_at hw.o (by omega) (by omega), fun G1 g1 => ?_⟩
  walk_at "ds"
  intro pp hpp
  have hne : pf ≠ pp := by rintro rfl; rw [g1 _ _ updG_same] at hpp; cases hpp
  walk_at "ds"
  refine dWhile_of (I := fun n ρ G2 => ∃ (found : List (List Sg)) (items : List (List Sg × Wk)) (x4 x5 x6 x7 : Option D), ρ = [some (toD w), some (.int m), some (.ref pf), some (.ref pp), x4, x5, x6, x7] ∧ PileR (tidyW w) items ∧ costP items ≤ n ∧ found.length ≤ m.toNat + 1 ∧ found ++ outP items = runsW (tidyW w) ∧ Grow G G2 ∧ G2 pf = some (.lst (found.map runD)) ∧ G2 pp = some (.lst (items.map pileD))) ?_ (costP [([], tidyW w)]) _ _ ?_
  · rintro n ρ G2 ⟨found, items, x4, x5, x6, x7, rfl, hp, hc, hl, ho, g2, ef, ep⟩ K hK
    have fin : (found.length = m.toNat + 1 ∨ items = []) → Q (.lst (found.map runD)) (dropG G2 pf) := fun hh => by
      have e := hq (dropG G2 pf) (Grow.drop hpf g2)
      rcases hh with hh | hh
      · rw [← ho, List.take_append_of_le_length (by omega), List.take_of_length_le (by omega)] at e
        exact e
      · subst hh
        rw [← ho] at e
        rw [show outP [] = [] from rfl, List.append_nil, List.take_of_length_le (by omega)] at e
        exact e
    walk_at "ds"
    refine ne_rl ep (pile_ok h0 hp) okNil ?_
    rcases List.eq_nil_or_concat items with rfl | ⟨xs, q, rfl⟩
    · rw [show eqvD (.lst (([] : List (List Sg × Wk)).map pileD)) (.lst []) = true from by decide +kernel]
      refine ifNT ?_
      walk_at "ds"
      refine frzR ef ?_
      exact fin (.inr rfl)
    · rw [List.concat_eq_append] at *
      rw [show eqvD (.lst ((xs ++ [q]).map pileD)) (.lst []) = false from by cases xs <;> simp [eqvD, eqvDs]]
      refine ifNF ?_
      walk_at "ds"
      refine len_r ef ?_
      walk_at "ds"
      refine ifD (fun hlm => ?_) (fun hlm => ?_)
      · rw [List.length_map] at hlm
        have hq1 := hp.all q (by simp)
        have hqb := hq1.bd h0
        have hqz := hqb.1.z
        have hqd := hqb.2
        have hpl := pile_len h0 hp
        rw [List.map_append] at ep
        walk_at "ds"
        refine pop_i ep ?_
        rw [show pileD q = .tup [runD q.1, toD q.2] from rfl]
        walk_at "ds"
        refine ⟨_, rx_at hqb.1.o (by omega) (by omega), fun G3 g3 => ?_⟩
        have ef3 : G3 pf = some (.lst (found.map runD)) := g3 _ _ (by rw [updG_ne hne]; exact ef)
        have ep3 : G3 pp = some (.lst (xs.map pileD)) := g3 _ _ updG_same
        have hppG : G pp = none := by
          cases e : G pp with
          | none => rfl
          | some o => rw [g1 _ _ (by rw [updG_ne (Ne.symm hne)]; exact e)] at hpp; cases hpp
        have g3' : Grow G G3 := (Grow.upd2 hppG g2).trans g3
        have push : ∀ (fnd : List (List Sg)) (G4 : GH) (x6 : Option D), x6 = some (nxD q.2) → Grow G G4 → G4 pf = some (.lst (fnd.map runD)) → G4 pp = some (.lst (xs.map pileD)) → fnd.length ≤ m.toNat + 1 → fnd ++ outP (xs ++ ((nxW q.2).reverse.map fun s => (q.1 ++ [s], aft q.2 s))) = runsW (tidyW w) →
            (dDrop (dMt mExtend (dVar 3) (dCons (dFrz (dLc (iSq (dFrz (dRev (dVar 6)))) (.one 7) dYes (dTup (dCons (dOp rAdd (dVar 4) (dTup (dCons (dVar 7) dNil))) (dCons (dCall (pSp RA) (dCons (dVar 5) (dCons (dVar 7) dNil))) dNil))) [7])) dNil)))
            { nx := K, rt := Q, bk := fun _ _ => False, ct := K } [some (toD w), some (.int m), some (.ref pf), some (.ref pp), some (runD q.1), some (toD q.2), x6, x7] G4 := by
          rintro fnd G4 x6 rfl g4 ef4 ep4 hl4 ho4
          walk_at "ds"
          refine lcF (nxW q.2).reverse sgD (fun s => pileD (q.1 ++ [s], aft q.2 s)) ?_ (by have := nx_le hqb; rw [List.length_reverse, sizeL]; omega) ?_ ?_
          · intro P hP
            unfold nxD
            walk_at "ds"
            rw [← List.map_reverse]
            exact hP _ _ (fun _ => trivial) (Grow.refl _)
          · intro s hs
            rw [List.mem_reverse] at hs
            refine ⟨_, rfl, fun G5 K5 hK5 => ?_⟩
            have hr := runs_le h0 hq1
            unfold runD
            walk_at "ds"
            refine add_tt (by rw [List.length_map, List.length_singleton, sizeL]; omega) ?_
            walk_at "ds"
            refine ⟨_, ⟨q.2, s, rfl, hqb.1.o, by omega, by omega, hs, rfl⟩, fun G6 g6 => ?_⟩
            walk_at "ds"
            have e := hK5 G6 g6
            rw [pileD, runD, List.map_append] at e
            exact e
          · intro G5 g5
            have ep5 := g5 _ _ ep4
            have hpush := pile_push h0 hp
            have hpl2 := pile_len h0 hpush
            rw [List.length_append, List.length_map] at hpl2
            walk_at "ds"
            refine ext_i ep5 rfl (by rw [List.length_map, List.length_map, sizeL]; omega) ?_
            refine hK (n - 1) ?_ _ _ ⟨fnd, xs ++ ((nxW q.2).reverse.map fun s => (q.1 ++ [s], aft q.2 s)), _, _, _, _, rfl, hpush, ?_, hl4, ho4, Grow.upd2 hppG (g4.trans g5), ?_, ?_⟩
            · have := cost_push (xs := xs) hqb; omega
            · have := cost_push (xs := xs) hqb; omega
            · rw [updG_ne hne]; exact g5 _ _ ef4
            · rw [updG_same, List.map_append, List.map_map]; rfl
        walk_at "ds"
        refine eq_i (x := .lst ((nxW q.2).map sgD)) ?_ okNil ?_
        · obtain ⟨k1, k2, k3, k4⟩ := hqb.1.nxs
          exact okD_of (by rw [smD]; exact k1) (by rw [depD]; omega)
        cases hnx : nxW q.2 with
        | nil =>
          rw [show eqvD (.lst (([] : List Sg).map sgD)) (.lst []) = true from by decide +kernel]
          refine ifT ?_
          walk_at "ds"
          refine app_i ef3 (by rw [List.length_map, sizeL]; omega) ?_
          refine push (found ++ [q.1]) _ _ (by unfold nxD; rw [hnx]) (Grow.upd2 hpf g3') ?_ ?_ ?_ ?_
          · rw [updG_same, List.map_append]; rfl
          · rw [updG_ne (Ne.symm hne)]; exact ep3
          · rw [List.length_append, List.length_singleton]; omega
          · rw [← ho, outP_app, outP_app, outP_end hqb hnx, hnx]; simp [outP]
        | cons s0 ss0 =>
          rw [show eqvD (.lst ((s0 :: ss0).map sgD)) (.lst []) = false from by simp [eqvD, eqvDs]]
          refine ifF ?_
          refine iNext ?_
          refine push found _ _ (by unfold nxD; rw [hnx]) g3' ef3 ep3 hl ?_
          rw [← ho, outP_app, outP_app, outP_push hqb (by rw [hnx]; simp)]
      · walk_at "ds"
        refine frzR ef ?_
        refine fin (.inl ?_)
        rw [List.length_map] at hlm
        omega
  · refine ⟨[], [([], tidyW w)], none, none, none, none, rfl, ⟨?_, ?_⟩, Nat.le_refl _, by simp, ?_, ?_, ?_, ?_⟩
    · intro q hq; rw [List.mem_singleton] at hq; subst hq; exact .nil _
    · intro i q hq
      cases i with
      | zero => exact Nat.zero_le _
      | succ i => simp at hq
    · simp [outP]
    · refine Grow.upd2 ?_ ((Grow.upd hpf).trans g1)
      cases e : G pp with
      | none => rfl
      | some o => rw [g1 _ _ (by rw [updG_ne (Ne.symm hne)]; exact e)] at hpp; cases hpp
    · rw [updG_ne hne]; exact g1 _ _ updG_same
    · rw [updG_same]; rfl
end K18

namespace K18
open PySem L2 Dl K17
local macro_rules | `(tactic| walk_at "ds") => `(tactic| repeat' with_reducible first
  | refine iNeg ?_ | refine lstP_i (by assumption) ?_ | refine lstP_i updG_same ?_ | refine dctP_i (by assumption) ?_ | refine dctP_i updG_same ?_ | refine isN_T ?_ | refine isN_F (by with_unfolding_all rfl) ?_ | refine iRev ?_ | refine revT ?_ | refine revL ?_ | refine iCallG ?_ | refine iSeq ?_ | refine iNext ?_ | refine iIfS ?_ | refine iRet ?_ | refine iRetN ?_ | refine iDrop ?_ | refine iAsg ?_ | refine iPar ?_ | refine iGNm ?_
  | refine iGTp (by with_unfolding_all rfl) ?_ | refine iGsCons ?_ | refine iGsNil ?_ | refine iGSb ?_ | refine iVar (by with_unfolding_all rfl) ?_ | refine iC ?_ | refine iNil ?_ | refine iCons ?_
  | refine iTup ?_ | refine lenOk (by with_unfolding_all rfl) ?_ | refine iFrz ?_ | refine iLst ?_ | refine frzEnd ?_ | refine frzT ?_ | refine frzL ?_ | refine slT ?_ | refine lstC_t ?_ | refine lstC_l ?_ | refine iOp ?_ | refine iTst ?_ | refine iTru ?_ | refine truB ?_
  | refine iAnd ?_ | refine iOr ?_ | refine iNot ?_ | refine iAndVK ?_ | refine andVT ?_ | refine andVF ?_ | refine andVDT (by decide) ?_ | refine andVDF (by decide) ?_ | refine ifDT (by decide) ?_ | refine ifDF (by decide) ?_ | refine iNotV ?_ | refine iIf ?_ | refine ifT ?_ | refine ifF ?_ | refine iCall ?_ | refine iCB ?_ | refine iMt ?_
  | refine iSl ?_ | refine iP ?_ | refine iNoP ?_ | refine iStar ?_ | refine iDGet ?_ | refine iIsi ?_ | refine iMatch ?_ | refine iFor ?_ | refine iISq ?_
  | refine rIx_i (by with_unfolding_all rfl) (by with_unfolding_all rfl) ?_ | refine rIx_i (by with_unfolding_all rfl) atI_0 ?_ | refine eq_strT ?_ | refine eq_strF (by with_unfolding_all rfl) ?_ | refine ne_strT ?_ | refine ne_strF (by with_unfolding_all rfl) ?_ | refine eq_ii ?_ | refine ne_ii ?_
  | refine caT ?_ | refine caF (by with_unfolding_all rfl) ?_ | refine caN ?_ | refine add_ii ?_ | refine int0 ?_ | refine len_t ?_ | refine len_l ?_ | refine tupC_t ?_ | refine tupC_l ?_
  | refine intC_i ?_ | refine intC_b ?_ | refine max2_ii ?_ | refine min2_ii ?_ | refine keyP_s ?_ | refine keyP_i ?_ | refine iIRg1 ?_ | refine iIRg2 ?_ | refine iIEnT ?_ | refine add_llb (by with_unfolding_all rfl) ?_ | refine add_ttb (by with_unfolding_all rfl) ?_
  | refine inn_T (by with_unfolding_all rfl) (by decide +kernel) (by decide +kernel) (by decide +kernel) ?_ | refine inn_F (by with_unfolding_all rfl) (by decide +kernel) (by decide +kernel) (by decide +kernel) ?_
  | refine isi_T (by with_unfolding_all rfl) (by decide +kernel) ?_ | refine isi_F (by with_unfolding_all rfl) (by decide +kernel) ?_ | refine iPsC ?_ | refine iPsN ?_ | refine ifNT ?_ | refine ifNF ?_
  | refine andVDT (by with_reducible_and_instances first | omega | (simp only [List.length_cons, List.length_nil]; omega)) ?_ | refine andVDF (by with_reducible_and_instances first | omega | (simp only [List.length_cons, List.length_nil]; omega)) ?_ | refine ifDT (by with_reducible_and_instances first | omega | (simp only [List.length_cons, List.length_nil]; omega)) ?_ | refine ifDF (by with_reducible_and_instances first | omega | (simp only [List.length_cons, List.length_nil]; omega)) ?_
  | refine ifNDT (by with_reducible_and_instances first | omega | (simp only [List.length_cons, List.length_nil]; omega)) ?_ | refine ifNDF (by with_reducible_and_instances first | omega | (simp only [List.length_cons, List.length_nil]; omega)) ?_
  | fail "stuck")
end K18

namespace K18
open PySem L2 Dl K17
local macro_rules | `(tactic| walk_at "ds") => `(tactic| repeat' with_reducible first
  | refine iNeg ?_ | refine lstP_i (by assumption) ?_ | refine lstP_i updG_same ?_ | refine dctP_i (by assumption) ?_ | refine dctP_i updG_same ?_ | refine isN_T ?_ | refine isN_F (by with_unfolding_all rfl) ?_ | refine iRev ?_ | refine revT ?_ | refine revL ?_ | refine iCallG ?_ | refine iSeq ?_ | refine iNext ?_ | refine iIfS ?_ | refine iRet ?_ | refine iRetN ?_ | refine iDrop ?_ | refine iAsg ?_ | refine iPar ?_ | refine iGNm ?_
  | refine iGTp (by with_unfolding_all rfl) ?_ | refine iGsCons ?_ | refine iGsNil ?_ | refine iGSb ?_ | refine iVar (by with_unfolding_all rfl) ?_ | refine iC ?_ | refine iNil ?_ | refine iCons ?_
  | refine iTup ?_ | refine lenOk (by with_unfolding_all rfl) ?_ | refine iFrz ?_ | refine iLst ?_ | refine frzEnd ?_ | refine frzT ?_ | refine frzL ?_ | refine slT ?_ | refine lstC_t ?_ | refine lstC_l ?_ | refine iOp ?_ | refine iTst ?_ | refine iTru ?_ | refine truB ?_
  | refine iAnd ?_ | refine iOr ?_ | refine iNot ?_ | refine iAndVK ?_ | refine andVT ?_ | refine andVF ?_ | refine andVDT (by decide) ?_ | refine andVDF (by decide) ?_ | refine ifDT (by decide) ?_ | refine ifDF (by decide) ?_ | refine iNotV ?_ | refine iIf ?_ | refine ifT ?_ | refine ifF ?_ | refine iCall ?_ | refine iCB ?_ | refine iMt ?_
  | refine iSl ?_ | refine iP ?_ | refine iNoP ?_ | refine iStar ?_ | refine iDGet ?_ | refine iIsi ?_ | refine iMatch ?_ | refine iFor ?_ | refine iISq ?_
  | refine rIx_i (by with_unfolding_all rfl) (by with_unfolding_all rfl) ?_ | refine rIx_i (by with_unfolding_all rfl) atI_0 ?_ | refine eq_strT ?_ | refine eq_strF (by with_unfolding_all rfl) ?_ | refine ne_strT ?_ | refine ne_strF (by with_unfolding_all rfl) ?_ | refine eq_ii ?_ | refine ne_ii ?_
  | refine caT ?_ | refine caF (by with_unfolding_all rfl) ?_ | refine caN ?_ | refine add_ii ?_ | refine int0 ?_ | refine len_t ?_ | refine len_l ?_ | refine tupC_t ?_ | refine tupC_l ?_
  | refine intC_i ?_ | refine intC_b ?_ | refine max2_ii ?_ | refine min2_ii ?_ | refine keyP_s ?_ | refine keyP_i ?_ | refine iIRg1 ?_ | refine iIRg2 ?_ | refine iIEnT ?_ | refine add_llb (by with_unfolding_all rfl) ?_ | refine add_ttb (by with_unfolding_all rfl) ?_
  | refine inn_T (by with_unfolding_all rfl) (by decide +kernel) (by decide +kernel) (by decide +kernel) ?_ | refine inn_F (by with_unfolding_all rfl) (by decide +kernel) (by decide +kernel) (by decide +kernel) ?_
  | refine isi_T (by with_unfolding_all rfl) (by decide +kernel) ?_ | refine isi_F (by with_unfolding_all rfl) (by decide +kernel) ?_ | refine iPsC ?_ | refine iPsN ?_ | refine ifNT ?_ | refine ifNF ?_
  | refine andVDT (by with_reducible_and_instances first | omega | (simp only [List.length_cons, List.length_nil]; omega)) ?_ | refine andVDF (by with_reducible_and_instances first | omega | (simp only [List.length_cons, List.length_nil]; omega)) ?_ | refine ifDT (by with_reducible_and_instances first | omega | (simp only [List.length_cons, List.length_nil]; omega)) ?_ | refine ifDF (by with_reducible_and_instances first | omega | (simp only [List.length_cons, List.length_nil]; omega)) ?_
  | refine ifNDT (by with_reducible_and_instances first | omega | (simp only [List.length_cons, List.length_nil]; omega)) ?_ | refine ifNDF (by with_reducible_and_instances first | omega | (simp only [List.length_cons, List.length_nil]; omega)) ?_
  | fail "stuck")
end K18

namespace K18
open PySem L2 Dl K17
local macro_rules | `(tactic| walk_at "ds") => `(tactic| repeat' with_reducible first
  | refine iNeg ?_ | refine lstP_i (by assumption) ?_ | refine lstP_i updG_same ?_ | refine dctP_i (by assumption) ?_ | refine dctP_i updG_same ?_ | refine isN_T ?_ | refine isN_F (by with_unfolding_all rfl) ?_ | refine iRev ?_ | refine revT ?_ | refine revL ?_ | refine iCallG ?_ | refine iSeq ?_ | refine iNext ?_ | refine iIfS ?_ | refine iRet ?_ | refine iRetN ?_ | refine iDrop ?_ | refine iAsg ?_ | refine iPar ?_ | refine iGNm ?_
  | refine iGTp (by with_unfolding_all rfl) ?_ | refine iGsCons ?_ | refine iGsNil ?_ | refine iGSb ?_ | refine iVar (by with_unfolding_all rfl) ?_ | refine iC ?_ | refine iNil ?_ | refine iCons ?_
  | refine iTup ?_ | refine lenOk (by with_unfolding_all rfl) ?_ | refine iFrz ?_ | refine iLst ?_ | refine frzEnd ?_ | refine frzT ?_ | refine frzL ?_ | refine slT ?_ | refine lstC_t ?_ | refine lstC_l ?_ | refine iOp ?_ | refine iTst ?_ | refine iTru ?_ | refine truB ?_
  | refine iAnd ?_ | refine iOr ?_ | refine iNot ?_ | refine iAndVK ?_ | refine andVT ?_ | refine andVF ?_ | refine andVDT (by decide) ?_ | refine andVDF (by decide) ?_ | refine ifDT (by decide) ?_ | refine ifDF (by decide) ?_ | refine iNotV ?_ | refine iIf ?_ | refine ifT ?_ | refine ifF ?_ | refine iCall ?_ | refine iCB ?_ | refine iMt ?_
  | refine iSl ?_ | refine iP ?_ | refine iNoP ?_ | refine iStar ?_ | refine iDGet ?_ | refine iIsi ?_ | refine iMatch ?_ | refine iFor ?_ | refine iISq ?_
  | refine rIx_i (by with_unfolding_all rfl) (by with_unfolding_all rfl) ?_ | refine rIx_i (by with_unfolding_all rfl) atI_0 ?_ | refine eq_strT ?_ | refine eq_strF (by with_unfolding_all rfl) ?_ | refine ne_strT ?_ | refine ne_strF (by with_unfolding_all rfl) ?_ | refine eq_ii ?_ | refine ne_ii ?_
  | refine caT ?_ | refine caF (by with_unfolding_all rfl) ?_ | refine caN ?_ | refine add_ii ?_ | refine int0 ?_ | refine len_t ?_ | refine len_l ?_ | refine tupC_t ?_ | refine tupC_l ?_
  | refine intC_i ?_ | refine intC_b ?_ | refine max2_ii ?_ | refine min2_ii ?_ | refine keyP_s ?_ | refine keyP_i ?_ | refine iIRg1 ?_ | refine iIRg2 ?_ | refine iIEnT ?_ | refine add_llb (by with_unfolding_all rfl) ?_ | refine add_ttb (by with_unfolding_all rfl) ?_
  | refine inn_T (by with_unfolding_all rfl) (by decide +kernel) (by decide +kernel) (by decide +kernel) ?_ | refine inn_F (by with_unfolding_all rfl) (by decide +kernel) (by decide +kernel) (by decide +kernel) ?_
  | refine isi_T (by with_unfolding_all rfl) (by decide +kernel) ?_ | refine isi_F (by with_unfolding_all rfl) (by decide +kernel) ?_ | refine iPsC ?_ | refine iPsN ?_ | refine ifNT ?_ | refine ifNF ?_
  | refine andVDT (by with_reducible_and_instances first | omega | (simp only [List.length_cons, List.length_nil]; omega)) ?_ | refine andVDF (by with_reducible_and_instances first | omega | (simp only [List.length_cons, List.length_nil]; omega)) ?_ | refine ifDT (by with_reducible_and_instances first | omega | (simp only [List.length_cons, List.length_nil]; omega)) ?_ | refine ifDF (by with_reducible_and_instances first | omega | (simp only [List.length_cons, List.length_nil]; omega)) ?_
  | refine ifNDT (by with_reducible_and_instances first | omega | (simp only [List.length_cons, List.length_nil]; omega)) ?_ | refine ifNDF (by with_reducible_and_instances first | omega | (simp only [List.length_cons, List.length_nil]; omega)) ?_
  | fail "stuck")
theorem forL {α : Type} (f : α → D) (xs : List α) {g : DTG} {tb : DTS} {E : DEnds} {J : DSt → GH → Prop} (h0 : ∀ ρ G, J ρ G → E.nx ρ G)
    (h : ∀ x ∈ xs, ∀ ρ G, J ρ G → ∀ K : DSt → GH → Prop, (∀ ρ' G', J ρ' G' → K ρ' G') → g (f x) ρ G fun ρ2 G2 => tb { E with nx := K, ct := K, bk := E.nx } ρ2 G2) :
    ∀ ρ G, J ρ G → dForGo okAll g tb (xs.map f) E ρ G := by
  intro ρ G j
  refine dForGo_of (I := fun rest ρ G => ∃ rs, rest = rs.map f ∧ (∀ x ∈ rs, x ∈ xs) ∧ J ρ G) ?_ ?_ _ _ _ ⟨xs, rfl, fun _ h => h, j⟩
  · rintro ρ G ⟨rs, -, -, j⟩; exact ⟨trivial, h0 ρ G j⟩
  · rintro x rest ρ G ⟨rs, e, m, j⟩ K hK
    cases rs with
    | nil => cases e
    | cons r rs =>
      injection e with e1 e2
      subst e1 e2
      exact ⟨trivial, h r (m r (List.mem_cons_self ..)) ρ G j K fun ρ' G' j' => hK ρ' G' ⟨rs, rfl, fun y hy => m y (List.mem_cons_of_mem _ hy), j'⟩⟩
theorem Path.take {w v : Wk} {ss : List Sg} (h : Path w ss v) : ∀ n, ∃ u, Path w (ss.take n) u := by
  induction h with
  | nil w => intro n; exact ⟨w, by simpa using Path.nil w⟩
  | @cons w v s ss h k ih =>
    intro n
    cases n with
    | zero => exact ⟨w, .nil w⟩
    | succ n => obtain ⟨u, hu⟩ := ih n; exact ⟨u, .cons h hu⟩
end K18

namespace K24
open PySem L2 Dl
def r_is_tick : DTS :=
  (dSeq (dWhile (dTst (dOp (rInn id) (dOp rIxA (dVar 0) (dC (.int 0))) (dTup (dCons (dC (.str "left")) (dCons (dC (.str "right")) dNil)))))
  (dAsg (dOp rIxA (dVar 0) (dC (.int 1))) (gNm 0)))
  (dRet (dOp rEqv (dVar 0) (dC (.str "tick")))))

def r_law_is_tick (sp_law_is_tick : DSp) : DTS :=
  (dSeq (dIfS (dTru (dIsi "tuple" (dVar 0)))
  (dRet (dIf (dTst (dOp (rInn id) (dOp rIx (dVar 0) (dC (.int 0))) (dTup (dCons (dC (.str "left")) (dCons (dC (.str "right")) dNil))))) (dCall sp_law_is_tick (dCons (dOp rIx (dVar 0) (dC (.int 1))) dNil)) (dC (.int 0))))
  dNext)
  (dRet (dCB rIntC (dCons (dOp rEqv (dVar 0) (dC (.str "tick"))) dNil))))

def r_law_end (sp_law_end : DSp) : DTS :=
  (dSeq (dAsg (dOp rIx (dVar 0) (dC (.int 0))) (gNm 2))
  (dSeq (dIfS (dTst (dOp rEqv (dVar 2) (dC (.str "tick"))))
  (dRet (dOp rIx (dVar 0) (dC (.int 1))))
  dNext)
  (dSeq (dIfS (dTst (dOp (rInn id) (dVar 2) (dTup (dCons (dC (.str "some")) (dCons (dC (.str "loop")) dNil)))))
  (dSeq (dAsg (dIf (dTru (dVar 1)) (dOp rIx (dVar 0) (dC (.int 1))) (dOp rIx (dVar 0) (dC (.int 2)))) (gNm 3))
  (dRet (dIf (dTst (dOp rEqv (dVar 2) (dC (.str "some")))) (dVar 3) (dOp rMul (dVar 3) (dCall sp_law_end (dCons (dOp rIx (dVar 0) (dC (.int 4))) (dCons (dVar 1) dNil)))))))
  dNext)
  (dSeq (dIfS (dTst (dOp rEqv (dVar 2) (dC (.str "beside"))))
  (dRet (dOp rAdd (dCall sp_law_end (dCons (dOp rIx (dVar 0) (dC (.int 1))) (dCons (dVar 1) dNil))) (dCall sp_law_end (dCons (dOp rIx (dVar 0) (dC (.int 2))) (dCons (dVar 1) dNil)))))
  dNext)
  (dSeq (dAsg (dFrz (dLc (iSq (dOp rIx (dVar 0) (dC (.int 1)))) (.one 5) dYes (dCall sp_law_end (dCons (dVar 5) (dCons (dVar 1) dNil))) [5])) (gNm 4))
  (dSeq (dIfS (dTst (dOp rEqv (dVar 2) (dC (.str "row"))))
  (dRet (dCB rSumC (dCons (dVar 4) dNil)))
  dNext)
  (dRet (dIf (dTru (dVar 1)) (dCB rMinC (dCons (dVar 4) dNil)) (dCB rMaxC (dCons (dVar 4) dNil))))))))))

end K24

namespace K24
open PySem L2 Dl K17 K18
local macro_rules | `(tactic| walk_at "ds") => `(tactic| repeat' with_reducible first
  | refine iNeg ?_ | refine lstP_i (by assumption) ?_ | refine lstP_i updG_same ?_ | refine dctP_i (by assumption) ?_ | refine dctP_i updG_same ?_ | refine isN_T ?_ | refine isN_F (by with_unfolding_all rfl) ?_ | refine iRev ?_ | refine revT ?_ | refine revL ?_ | refine iCallG ?_ | refine iSeq ?_ | refine iNext ?_ | refine iIfS ?_ | refine iRet ?_ | refine iRetN ?_ | refine iDrop ?_ | refine iAsg ?_ | refine iPar ?_ | refine iGNm ?_
  | refine iGTp (by with_unfolding_all rfl) ?_ | refine iGsCons ?_ | refine iGsNil ?_ | refine iGSb ?_ | refine iVar (by with_unfolding_all rfl) ?_ | refine iC ?_ | refine iNil ?_ | refine iCons ?_
  | refine iTup ?_ | refine lenOk (by with_unfolding_all rfl) ?_ | refine iFrz ?_ | refine iLst ?_ | refine frzEnd ?_ | refine frzT ?_ | refine frzL ?_ | refine slT ?_ | refine lstC_t ?_ | refine lstC_l ?_ | refine iOp ?_ | refine iTst ?_ | refine iTru ?_ | refine truB ?_
  | refine iAnd ?_ | refine iOr ?_ | refine iNot ?_ | refine iAndVK ?_ | refine andVT ?_ | refine andVF ?_ | refine andVDT (by decide) ?_ | refine andVDF (by decide) ?_ | refine ifDT (by decide) ?_ | refine ifDF (by decide) ?_ | refine iNotV ?_ | refine iIf ?_ | refine ifT ?_ | refine ifF ?_ | refine iCall ?_ | refine iCB ?_ | refine iMt ?_
  | refine iSl ?_ | refine iP ?_ | refine iNoP ?_ | refine iStar ?_ | refine iDGet ?_ | refine iIsi ?_ | refine iMatch ?_ | refine iFor ?_ | refine iISq ?_
  | refine rIx_i (by with_unfolding_all rfl) (by with_unfolding_all rfl) ?_ | refine rIx_i (by with_unfolding_all rfl) atI_0 ?_ | refine eq_strT ?_ | refine eq_strF (by with_unfolding_all rfl) ?_ | refine ne_strT ?_ | refine ne_strF (by with_unfolding_all rfl) ?_ | refine eq_ii ?_ | refine ne_ii ?_
  | refine caT ?_ | refine caF (by with_unfolding_all rfl) ?_ | refine caN ?_ | refine add_ii ?_ | refine int0 ?_ | refine len_t ?_ | refine len_l ?_ | refine tupC_t ?_ | refine tupC_l ?_
  | refine intC_i ?_ | refine intC_b ?_ | refine max2_ii ?_ | refine min2_ii ?_ | refine keyP_s ?_ | refine keyP_i ?_ | refine iIRg1 ?_ | refine iIRg2 ?_ | refine iIEnT ?_ | refine add_llb (by with_unfolding_all rfl) ?_ | refine add_ttb (by with_unfolding_all rfl) ?_
  | refine inn_T (by with_unfolding_all rfl) (by decide +kernel) (by decide +kernel) (by decide +kernel) ?_ | refine inn_F (by with_unfolding_all rfl) (by decide +kernel) (by decide +kernel) (by decide +kernel) ?_
  | refine isi_T (by with_unfolding_all rfl) (by decide +kernel) ?_ | refine isi_F (by with_unfolding_all rfl) (by decide +kernel) ?_ | refine iPsC ?_ | refine iPsN ?_ | refine ifNT ?_ | refine ifNF ?_
  | refine andVDT (by with_reducible_and_instances first | omega | (simp only [List.length_cons, List.length_nil]; omega)) ?_ | refine andVDF (by with_reducible_and_instances first | omega | (simp only [List.length_cons, List.length_nil]; omega)) ?_ | refine ifDT (by with_reducible_and_instances first | omega | (simp only [List.length_cons, List.length_nil]; omega)) ?_ | refine ifDF (by with_reducible_and_instances first | omega | (simp only [List.length_cons, List.length_nil]; omega)) ?_
  | refine ifNDT (by with_reducible_and_instances first | omega | (simp only [List.length_cons, List.length_nil]; omega)) ?_ | refine ifNDF (by with_reducible_and_instances first | omega | (simp only [List.length_cons, List.length_nil]; omega)) ?_
  | fail "stuck")
def tkS : Sg → Bool
  | .tick => true
  | .left s => tkS s
  | .right s => tkS s
  | _ => false
def nsS : Sg → Nat
  | .left s => nsS s + 1
  | .right s => nsS s + 1
  | _ => 0
def cntS (ss : List Sg) : Nat := (ss.filter tkS).length
theorem cntS_app (a b : List Sg) : cntS (a ++ b) = cntS a + cntS b := by unfold cntS; simp
theorem cntS_le (ss : List Sg) : cntS ss ≤ ss.length := by unfold cntS; exact List.length_filter_le ..
def minL : List Int → Int
  | [] => 0
  | x :: l => l.foldl (fun a b => if b < a then b else a) x
def maxL : List Int → Int
  | [] => 0
  | x :: l => l.foldl (fun a b => if a < b then b else a) x
theorem minF (l : List Int) : ∀ x : Int, (l.foldl (fun a b => if b < a then b else a) x ∈ x :: l) ∧ ∀ y ∈ x :: l, l.foldl (fun a b => if b < a then b else a) x ≤ y := by
  induction l with
  | nil => intro x; simp
  | cons z l ih =>
    intro x
    obtain ⟨h1, h2⟩ := ih (if z < x then z else x)
    rw [List.foldl_cons]
    refine ⟨?_, fun y hy => ?_⟩
    · rcases List.mem_cons.mp h1 with q | q
      · rw [q]; split <;> simp
      · exact List.mem_cons_of_mem _ (List.mem_cons_of_mem _ q)
    · have h3 := h2 (if z < x then z else x) (List.mem_cons_self ..)
      have h4 : (if z < x then z else x) ≤ x ∧ (if z < x then z else x) ≤ z := by split <;> omega
      rcases List.mem_cons.mp hy with rfl | hy
      · omega
      · rcases List.mem_cons.mp hy with rfl | hy
        · omega
        · exact h2 y (List.mem_cons_of_mem _ hy)
theorem maxF (l : List Int) : ∀ x : Int, (l.foldl (fun a b => if a < b then b else a) x ∈ x :: l) ∧ ∀ y ∈ x :: l, y ≤ l.foldl (fun a b => if a < b then b else a) x := by
  induction l with
  | nil => intro x; simp
  | cons z l ih =>
    intro x
    obtain ⟨h1, h2⟩ := ih (if x < z then z else x)
    rw [List.foldl_cons]
    refine ⟨?_, fun y hy => ?_⟩
    · rcases List.mem_cons.mp h1 with q | q
      · rw [q]; split <;> simp
      · exact List.mem_cons_of_mem _ (List.mem_cons_of_mem _ q)
    · have h3 := h2 (if x < z then z else x) (List.mem_cons_self ..)
      have h4 : x ≤ (if x < z then z else x) ∧ z ≤ (if x < z then z else x) := by split <;> omega
      rcases List.mem_cons.mp hy with rfl | hy
      · omega
      · rcases List.mem_cons.mp hy with rfl | hy
        · omega
        · exact h2 y (List.mem_cons_of_mem _ hy)
theorem minL_mem {l : List Int} (h : l ≠ []) : minL l ∈ l := by cases l with
  | nil => exact absurd rfl h
  | cons x l => exact (minF l x).1
theorem minL_le {l : List Int} {y : Int} (h : y ∈ l) : minL l ≤ y := by cases l with
  | nil => cases h
  | cons x l => exact (minF l x).2 y h
theorem maxL_mem {l : List Int} (h : l ≠ []) : maxL l ∈ l := by cases l with
  | nil => exact absurd rfl h
  | cons x l => exact (maxF l x).1
theorem maxL_le {l : List Int} {y : Int} (h : y ∈ l) : y ≤ maxL l := by cases l with
  | nil => cases h
  | cons x l => exact (maxF l x).2 y h
theorem min_uni {l : List Int} {m : Int} (h : m ∈ l) (k : ∀ y, y ∈ l → m ≤ y) : m = minL l := by
  have h1 := k _ (minL_mem (List.ne_nil_of_mem h))
  have h2 := minL_le h
  omega
theorem max_uni {l : List Int} {m : Int} (h : m ∈ l) (k : ∀ y, y ∈ l → y ≤ m) : m = maxL l := by
  have h1 := k _ (maxL_mem (List.ne_nil_of_mem h))
  have h2 := maxL_le h
  omega
mutual
def lsW : Wk → Int
  | .tick n => n
  | .sme a _ _ => a
  | .lop a _ _ w => a * lsW w
  | .eit ws => minL (lsWs ws)
  | .row ws => (lsWs ws).sum
  | .bes a b => lsW a + lsW b
def lsWs : List Wk → List Int
  | [] => []
  | w :: ws => lsW w :: lsWs ws
end
mutual
def gtW : Wk → Int
  | .tick n => n
  | .sme _ b _ => b
  | .lop _ b _ w => b * gtW w
  | .eit ws => maxL (gtWs ws)
  | .row ws => (gtWs ws).sum
  | .bes a b => gtW a + gtW b
def gtWs : List Wk → List Int
  | [] => []
  | w :: ws => gtW w :: gtWs ws
end
theorem lsWs_map : ∀ ws : List Wk, lsWs ws = ws.map lsW
  | [] => by simp [lsWs]
  | w :: ws => by simp [lsWs, lsWs_map ws]
theorem gtWs_map : ∀ ws : List Wk, gtWs ws = ws.map gtW
  | [] => by simp [gtWs]
  | w :: ws => by simp [gtWs, gtWs_map ws]
def tk1 (s : Sg) : Int := if tkS s = true then 1 else 0
theorem _root_.K18.Path.tidy {w v : Wk} {ss : List Sg} (h : Path w ss v) (t : tidyW w = w) : tidyW v = v := by
  induction h with
  | nil w => exact t
  | @cons w v s ss h k ih => exact ih (tidy_idem _).1
end K24

namespace K24
open PySem L2 Dl K17 K18
local macro_rules | `(tactic| walk_at "ds") => `(tactic| repeat' with_reducible first
  | refine iNeg ?_ | refine lstP_i (by assumption) ?_ | refine lstP_i updG_same ?_ | refine dctP_i (by assumption) ?_ | refine dctP_i updG_same ?_ | refine isN_T ?_ | refine isN_F (by with_unfolding_all rfl) ?_ | refine iRev ?_ | refine revT ?_ | refine revL ?_ | refine iCallG ?_ | refine iSeq ?_ | refine iNext ?_ | refine iIfS ?_ | refine iRet ?_ | refine iRetN ?_ | refine iDrop ?_ | refine iAsg ?_ | refine iPar ?_ | refine iGNm ?_
  | refine iGTp (by with_unfolding_all rfl) ?_ | refine iGsCons ?_ | refine iGsNil ?_ | refine iGSb ?_ | refine iVar (by with_unfolding_all rfl) ?_ | refine iC ?_ | refine iNil ?_ | refine iCons ?_
  | refine iTup ?_ | refine lenOk (by with_unfolding_all rfl) ?_ | refine iFrz ?_ | refine iLst ?_ | refine frzEnd ?_ | refine frzT ?_ | refine frzL ?_ | refine slT ?_ | refine lstC_t ?_ | refine lstC_l ?_ | refine iOp ?_ | refine iTst ?_ | refine iTru ?_ | refine truB ?_
  | refine iAnd ?_ | refine iOr ?_ | refine iNot ?_ | refine iAndVK ?_ | refine andVT ?_ | refine andVF ?_ | refine andVDT (by decide) ?_ | refine andVDF (by decide) ?_ | refine ifDT (by decide) ?_ | refine ifDF (by decide) ?_ | refine iNotV ?_ | refine iIf ?_ | refine ifT ?_ | refine ifF ?_ | refine iCall ?_ | refine iCB ?_ | refine iMt ?_
  | refine iSl ?_ | refine iP ?_ | refine iNoP ?_ | refine iStar ?_ | refine iDGet ?_ | refine iIsi ?_ | refine iMatch ?_ | refine iFor ?_ | refine iISq ?_
  | refine rIx_i (by with_unfolding_all rfl) (by with_unfolding_all rfl) ?_ | refine rIx_i (by with_unfolding_all rfl) atI_0 ?_ | refine eq_strT ?_ | refine eq_strF (by with_unfolding_all rfl) ?_ | refine ne_strT ?_ | refine ne_strF (by with_unfolding_all rfl) ?_ | refine eq_ii ?_ | refine ne_ii ?_
  | refine caT ?_ | refine caF (by with_unfolding_all rfl) ?_ | refine caN ?_ | refine add_ii ?_ | refine int0 ?_ | refine len_t ?_ | refine len_l ?_ | refine tupC_t ?_ | refine tupC_l ?_
  | refine intC_i ?_ | refine intC_b ?_ | refine max2_ii ?_ | refine min2_ii ?_ | refine keyP_s ?_ | refine keyP_i ?_ | refine iIRg1 ?_ | refine iIRg2 ?_ | refine iIEnT ?_ | refine add_llb (by with_unfolding_all rfl) ?_ | refine add_ttb (by with_unfolding_all rfl) ?_
  | refine inn_T (by with_unfolding_all rfl) (by decide +kernel) (by decide +kernel) (by decide +kernel) ?_ | refine inn_F (by with_unfolding_all rfl) (by decide +kernel) (by decide +kernel) (by decide +kernel) ?_
  | refine isi_T (by with_unfolding_all rfl) (by decide +kernel) ?_ | refine isi_F (by with_unfolding_all rfl) (by decide +kernel) ?_ | refine iPsC ?_ | refine iPsN ?_ | refine ifNT ?_ | refine ifNF ?_
  | refine andVDT (by with_reducible_and_instances first | omega | (simp only [List.length_cons, List.length_nil]; omega)) ?_ | refine andVDF (by with_reducible_and_instances first | omega | (simp only [List.length_cons, List.length_nil]; omega)) ?_ | refine ifDT (by with_reducible_and_instances first | omega | (simp only [List.length_cons, List.length_nil]; omega)) ?_ | refine ifDF (by with_reducible_and_instances first | omega | (simp only [List.length_cons, List.length_nil]; omega)) ?_
  | refine ifNDT (by with_reducible_and_instances first | omega | (simp only [List.length_cons, List.length_nil]; omega)) ?_ | refine ifNDF (by with_reducible_and_instances first | omega | (simp only [List.length_cons, List.length_nil]; omega)) ?_
  | fail "stuck")
theorem intsD_map : ∀ ns : List Int, intsD (ns.map D.int) = some ns
  | [] => rfl
  | n :: ns => by simp only [List.map_cons, intsD, intsD_map ns, Option.map_some]
theorem ints_i {ns : List Int} {G : GH} {P : List Int → Prop} (h : P ns) : intsP G (.lst (ns.map D.int)) P := by
  unfold intsP lsOf
  dsimp only
  rw [intsD_map]
  exact h
theorem sum_i {ns : List Int} {G : GH} {Q : DK} (h : Q (.int ns.sum) G) : rSumC [.lst (ns.map D.int)] G Q := ints_i (G := G) (P := fun ns => Q (.int ns.sum) G) h
theorem min_i {ns : List Int} {G : GH} {Q : DK} (hn : ns ≠ []) (h : Q (.int (minL ns)) G) : rMinC [.lst (ns.map D.int)] G Q :=
  ints_i (G := G) (P := fun ns => 0 < ns.length ∧ ∀ m, m ∈ ns → (∀ y, y ∈ ns → m ≤ y) → Q (.int m) G) ⟨List.length_pos_iff.mpr hn, fun m h1 h2 => by rw [min_uni h1 h2]; exact h⟩
theorem max_i {ns : List Int} {G : GH} {Q : DK} (hn : ns ≠ []) (h : Q (.int (maxL ns)) G) : rMaxC [.lst (ns.map D.int)] G Q :=
  ints_i (G := G) (P := fun ns => 0 < ns.length ∧ ∀ m, m ∈ ns → (∀ y, y ∈ ns → y ≤ m) → Q (.int m) G) ⟨List.length_pos_iff.mpr hn, fun m h1 h2 => by rw [max_uni h1 h2]; exact h⟩
def RTk : List D → D → Prop := fun ds d => ∃ s, ds = [sgD s] ∧ depD (sgD s) ≤ 60 ∧ d = .bl (tkS s)
theorem is_tick_rd : ∀ ds G Q E, pSp RTk ds G Q E → r_is_tick { nx := fun _ G' => Q .non G', rt := Q } (startD 1 ds) G := by
  rintro ds G Q E ⟨d, ⟨s, rfl, hd, rfl⟩, hq⟩
  unfold r_is_tick
  refine iSeq ?_
  refine dWhile_of (I := fun n ρ G1 => ∃ t, nsS t = n ∧ ρ = [some (sgD t)] ∧ tkS t = tkS s ∧ depD (sgD t) ≤ 60 ∧ G1 = G) ?_ (nsS s) _ _ ⟨s, rfl, rfl, rfl, hd, rfl⟩
  rintro n ρ G1 ⟨t, ht, rfl, hk, hd, rfl⟩ K hK
  have e := hq G1 (Grow.refl _)
  rw [← hk] at e
  have so : okD (.str "tick") := ⟨by simp [pureD, so_tick], by simp [depD]⟩
  cases t with
  | tick =>
    simp only [sgD]; walk_at "ds"
    refine ixA_s (c := 116) (by decide) (by decide +kernel) ?_
    walk_at "ds"
    exact e
  | more =>
    simp only [sgD]; walk_at "ds"
    refine ixA_s (c := 109) (by decide) (by decide +kernel) ?_
    walk_at "ds"
    exact e
  | fin =>
    simp only [sgD]; walk_at "ds"
    refine ixA_s (c := 101) (by decide) (by decide +kernel) ?_
    walk_at "ds"
    exact e
  | many m =>
    simp only [sgD]; walk_at "ds"
    refine ixA_t atI_0 ?_
    walk_at "ds"
    refine eq_ts ⟨by simp [pureD, pureDs, so_many], by simp [depD, depDs]⟩ so ?_
    exact e
  | way m =>
    simp only [sgD]; walk_at "ds"
    refine ixA_t atI_0 ?_
    walk_at "ds"
    refine eq_ts ⟨by simp [pureD, pureDs, so_way], by simp [depD, depDs]⟩ so ?_
    exact e
  | left t =>
    simp only [sgD, depD, depDs] at hd
    simp only [sgD]; walk_at "ds"
    refine ixA_t atI_0 ?_
    walk_at "ds"
    refine ixA_t atI_1 ?_
    walk_at "ds"
    exact hK (nsS t) (by rw [← ht]; rfl) _ _ ⟨t, rfl, rfl, hk, by omega, rfl⟩
  | right t =>
    simp only [sgD, depD, depDs] at hd
    simp only [sgD]; walk_at "ds"
    refine ixA_t atI_0 ?_
    walk_at "ds"
    refine ixA_t atI_1 ?_
    walk_at "ds"
    exact hK (nsS t) (by rw [← ht]; rfl) _ _ ⟨t, rfl, rfl, hk, by omega, rfl⟩
structure Row (ss : List Sg) : Prop where
  dp : ∀ s ∈ ss, depD (sgD s) ≤ 38
  len : ss.length ≤ 100000
def RIt (n : Nat) : List D → D → Prop := fun ds d => ∃ s, ds = [sgD s] ∧ depD (sgD s) < n ∧ d = .int (tk1 s)
theorem law_is_tick_rd {n : Nat} : ∀ ds G Q E, pSp (RIt (n + 1)) ds G Q E → r_law_is_tick (pSp (RIt n)) { nx := fun _ G' => Q .non G', rt := Q } (startD 1 ds) G := by
  rintro ds G Q E ⟨d, ⟨s, rfl, hd, rfl⟩, hq⟩
  unfold r_law_is_tick
  cases s with
  | tick => simp only [sgD]; walk_at "ds"; exact hq _ (Grow.refl _)
  | more => simp only [sgD]; walk_at "ds"; exact hq _ (Grow.refl _)
  | fin => simp only [sgD]; walk_at "ds"; exact hq _ (Grow.refl _)
  | many m => simp only [sgD]; walk_at "ds"; exact hq _ (Grow.refl _)
  | way m => simp only [sgD]; walk_at "ds"; exact hq _ (Grow.refl _)
  | left s =>
    simp only [sgD, depD, depDs] at hd
    simp only [sgD]; walk_at "ds"
    exact ⟨_, ⟨s, rfl, by omega, rfl⟩, hq⟩
  | right s =>
    simp only [sgD, depD, depDs] at hd
    simp only [sgD]; walk_at "ds"
    exact ⟨_, ⟨s, rfl, by omega, rfl⟩, hq⟩
def enW (b : Bool) (w : Wk) : Int := if b = true then lsW w else gtW w
def REn (n : Nat) : List D → D → Prop := fun ds d => ∃ w b, ds = [toD w, .bl b] ∧ okW 999 w ∧ zW w ≤ 10000 ∧ dpW w ≤ n ∧ d = .int (enW b w)
theorem law_end_rd {n : Nat} : ∀ ds G Q E, pSp (REn (n + 1)) ds G Q E → r_law_end (pSp (REn n)) { nx := fun _ G' => Q .non G', rt := Q } (startD 6 ds) G := by
  rintro ds G Q E ⟨d, ⟨w, b, rfl, ho, hz, hd, rfl⟩, hq⟩
  unfold r_law_end
  have lst : ∀ ws : List Wk, okWs 999 ws → zWs ws ≤ 10000 → dpWs ws ≤ n → ∀ (ρ : DSt) (K : DK), ρ = [some (.tup [.str "row", .tup (toDs ws)]), some (.bl b), some (.str "row"), none, none, none] ∨ ρ = [some (.tup [.str "either", .tup (toDs ws)]), some (.bl b), some (.str "either"), none, none, none] →
      (∀ G', Grow G G' → K (.lst ((ws.map (enW b)).map D.int)) G') →
      dLc (iSq (dOp rIx (dVar 0) (dC (.int 1)))) (.one 5) dYes (dCall (pSp (REn n)) (dCons (dVar 5) (dCons (dVar 1) dNil))) [5] ρ G (frzK K) := by
    intro ws ho hz hd ρ K hρ hK
    refine lcF ws toD (fun w => .int (enW b w)) ?_ (by rw [sizeL]; have := len_zWs ws; omega) ?_ ?_
    · intro P hP
      rcases hρ with rfl | rfl
      · walk_at "ds"; rw [← toDs_map] at hP; exact hP _ _ (fun _ => trivial) (Grow.refl _)
      · walk_at "ds"; rw [← toDs_map] at hP; exact hP _ _ (fun _ => trivial) (Grow.refl _)
    · intro w hw
      have h1 := zWs_mem hw
      have h2 := dpWs_mem hw
      rcases hρ with rfl | rfl
      · refine ⟨_, rfl, fun G1 K hK => ?_⟩
        walk_at "ds"; exact ⟨_, ⟨w, b, rfl, okWs_iff.mp ho w hw, by omega, by omega, rfl⟩, fun G' g => hK _ g⟩
      · refine ⟨_, rfl, fun G1 K hK => ?_⟩
        walk_at "ds"; exact ⟨_, ⟨w, b, rfl, okWs_iff.mp ho w hw, by omega, by omega, rfl⟩, fun G' g => hK _ g⟩
    · intro G' g
      have := hK G' g
      rw [List.map_map] at this
      exact this
  have mp : ∀ ws : List Wk, ws.map (enW b) = if b = true then lsWs ws else gtWs ws := by
    intro ws
    cases b with
    | true => rw [if_pos rfl, lsWs_map]; rfl
    | false => rw [if_neg (by decide), gtWs_map]; rfl
  cases w with
  | tick m => rw [toD]; walk_at "ds"; have e := hq _ (Grow.refl _); cases b <;> exact e
  | sme x y t =>
    rw [toD]; walk_at "ds"
    cases b with
    | true => walk_at "ds"; exact hq _ (Grow.refl _)
    | false => walk_at "ds"; exact hq _ (Grow.refl _)
  | lop x y t w =>
    rw [okW] at ho
    rw [zW] at hz
    rw [dpW] at hd
    have hm : 1 * (zW w + 1) ≤ (y.toNat + 1) * (zW w + 1) := Nat.mul_le_mul (by omega) (by omega)
    rw [toD]; walk_at "ds"
    cases b with
    | true =>
      walk_at "ds"
      refine ⟨_, ⟨w, true, rfl, ho.2.2.2, by omega, by omega, rfl⟩, fun G1 g1 => ?_⟩
      refine mul_ii (.inl ⟨by omega, by omega⟩) ?_
      exact hq _ g1
    | false =>
      walk_at "ds"
      refine ⟨_, ⟨w, false, rfl, ho.2.2.2, by omega, by omega, rfl⟩, fun G1 g1 => ?_⟩
      refine mul_ii (.inl ⟨by omega, by omega⟩) ?_
      exact hq _ g1
  | bes x y =>
    rw [okW] at ho
    rw [zW] at hz
    rw [dpW] at hd
    rw [toD]; walk_at "ds"
    refine ⟨_, ⟨x, b, rfl, ho.1, by omega, by omega, rfl⟩, fun G1 g1 => ?_⟩
    walk_at "ds"
    refine ⟨_, ⟨y, b, rfl, ho.2, by omega, by omega, rfl⟩, fun G2 g2 => ?_⟩
    walk_at "ds"
    have e := hq _ (g1.trans g2)
    cases b <;> exact e
  | row ws =>
    rw [okW] at ho
    rw [zW] at hz
    rw [dpW] at hd
    rw [toD]; walk_at "ds"
    refine lst ws ho (by omega) (by omega) _ _ (.inl rfl) ?_
    intro G1 g1
    walk_at "ds"
    refine sum_i ?_
    rw [mp]
    have e := hq _ g1
    cases b <;> exact e
  | eit ws =>
    rw [okW] at ho
    rw [zW] at hz
    rw [dpW] at hd
    rw [toD]; walk_at "ds"
    refine lst ws ho.2 (by omega) (by omega) _ _ (.inr rfl) ?_
    intro G1 g1
    have e := hq _ g1
    have hn : ws.map (enW b) ≠ [] := by simpa using ho.1
    cases b with
    | true =>
      walk_at "ds"
      refine min_i hn ?_
      rw [mp]
      exact e
    | false =>
      walk_at "ds"
      refine max_i hn ?_
      rw [mp]
      exact e
end K24

namespace K23
open PySem L2 Dl
def r_tidy (sp_tidy : DSp) : DTS :=
  (dSeq (dIfS (dTst (dOp rEqv (dOp rIx (dVar 0) (dC (.int 0))) (dC (.str "beside"))))
  (dSeq (dPar 1 2 (dCons (dCall sp_tidy (dCons (dOp rIx (dVar 0) (dC (.int 1))) dNil)) (dCons (dCall sp_tidy (dCons (dOp rIx (dVar 0) (dC (.int 2))) dNil)) dNil)))
  (dRet (dIf (dAnd (dTst (dOp rEqv (dVar 1) (dC (.tup [.str "row", .tup []])))) (dTst (dOp rEqv (dVar 2) (dC (.tup [.str "row", .tup []]))))) (dC (.tup [.str "row", .tup []])) (dTup (dCons (dC (.str "beside")) (dCons (dVar 1) (dCons (dVar 2) dNil)))))))
  dNext)
  (dSeq (dIfS (dTst (dOp rNev (dOp rIx (dVar 0) (dC (.int 0))) (dC (.str "row"))))
  (dRet (dVar 0))
  dNext)
  (dSeq (dAsg (dLst dNil) (gNm 3))
  (dSeq (dFor (iSq (dOp rIx (dVar 0) (dC (.int 1)))) (gNm 4)
  (dSeq (dAsg (dCall sp_tidy (dCons (dVar 4) dNil)) (gNm 5))
  (dDrop (dMt mExtend (dVar 3) (dCons (dIf (dTst (dOp rEqv (dOp rIx (dVar 5) (dC (.int 0))) (dC (.str "row")))) (dOp rIx (dVar 5) (dC (.int 1))) (dFrz (dLst (dCons (dVar 5) dNil)))) dNil)))))
  (dRet (dIf (dTst (dOp rEqv (dCB rLen (dCons (dVar 3) dNil)) (dC (.int 1)))) (dOp rIx (dVar 3) (dC (.int 0))) (dTup (dCons (dC (.str "row")) (dCons (dCB rTupC (dCons (dVar 3) dNil)) dNil)))))))))

def r_ticks_left : DTS :=
  (dRet (dIf (dTst (dOp rEqv (dVar 0) (dC (.int 0)))) (dC (.tup [.str "row", .tup []])) (dTup (dCons (dC (.str "tick")) (dCons (dVar 0) dNil)))))

def r_some_steps (sp_ticks_left : DSp) : DTS :=
  (dSeq (dIfS (dTru (dVar 2))
  (dRet (dFrz (dLc (iRg2 (dCons (dVar 0) (dCons (dOp rAdd (dVar 1) (dC (.int 1))) dNil))) (.one 3) dYes (dTup (dCons (dTup (dCons (dC (.str "many")) (dCons (dVar 3) dNil))) (dCons (dCall sp_ticks_left (dCons (dVar 3) dNil)) dNil))) [3])))
  dNext)
  (dSeq (dAsg (dIf (dTst (dOp rGt (dVar 1) (dC (.int 0)))) (dFrz (dLst (dCons (dTup (dCons (dC (.str "tick")) (dCons (dTup (dCons (dC (.str "some")) (dCons (dCB rMax2 (dCons (dC (.int 0)) (dCons (dOp rSub (dVar 0) (dC (.int 1))) dNil))) (dCons (dOp rSub (dVar 1) (dC (.int 1))) (dCons (dC (.bl false)) dNil))))) dNil))) dNil))) (dFrz (dLst dNil))) (gNm 4))
  (dRet (dFrz (dOp rAdd (dVar 4) (dIf (dTst (dOp rEqv (dVar 0) (dC (.int 0)))) (dFrz (dLst (dCons (dTup (dCons (dC (.str "end")) (dCons (dC (.tup [.str "row", .tup []])) dNil))) dNil))) (dFrz (dLst dNil))))))))

def r_loop_steps (sp_tidy : DSp) : DTS :=
  (dSeq (dIfS (dTru (dVar 2))
  (dRet (dFrz (dLc (iRg2 (dCons (dVar 0) (dCons (dOp rAdd (dVar 1) (dC (.int 1))) dNil))) (.one 4) dYes (dTup (dCons (dTup (dCons (dC (.str "many")) (dCons (dVar 4) dNil))) (dCons (dCall sp_tidy (dCons (dTup (dCons (dC (.str "row")) (dCons (dOp rMul (dTup (dCons (dVar 3) dNil)) (dVar 4)) dNil))) dNil)) dNil))) [4])))
  dNext)
  (dSeq (dAsg (dTup (dCons (dC (.str "loop")) (dCons (dCB rMax2 (dCons (dC (.int 0)) (dCons (dOp rSub (dVar 0) (dC (.int 1))) dNil))) (dCons (dOp rSub (dVar 1) (dC (.int 1))) (dCons (dC (.bl false)) (dCons (dVar 3) dNil)))))) (gNm 5))
  (dSeq (dAsg (dIf (dTst (dOp rGt (dVar 1) (dC (.int 0)))) (dFrz (dLst (dCons (dTup (dCons (dC (.str "more")) (dCons (dCall sp_tidy (dCons (dTup (dCons (dC (.str "row")) (dCons (dTup (dCons (dVar 3) (dCons (dVar 5) dNil))) dNil))) dNil)) dNil))) dNil))) (dFrz (dLst dNil))) (gNm 6))
  (dRet (dFrz (dOp rAdd (dVar 6) (dIf (dTst (dOp rEqv (dVar 0) (dC (.int 0)))) (dFrz (dLst (dCons (dTup (dCons (dC (.str "end")) (dCons (dC (.tup [.str "row", .tup []])) dNil))) dNil))) (dFrz (dLst dNil)))))))))

def r_beside_steps (sp_steps_of : DSp) (sp_tidy : DSp) : DTS :=
  (dSeq (dAsg (dFrz (dLc (iSq (dCall sp_steps_of (dCons (dVar 0) dNil))) (.tup [3, 4]) dYes (dTup (dCons (dTup (dCons (dC (.str "left")) (dCons (dVar 3) dNil))) (dCons (dCall sp_tidy (dCons (dTup (dCons (dC (.str "beside")) (dCons (dVar 4) (dCons (dVar 1) dNil)))) dNil)) dNil))) [3, 4])) (gNm 2))
  (dRet (dFrz (dOp rAdd (dVar 2) (dFrz (dLc (iSq (dCall sp_steps_of (dCons (dVar 1) dNil))) (.tup [3, 4]) dYes (dTup (dCons (dTup (dCons (dC (.str "right")) (dCons (dVar 3) dNil))) (dCons (dCall sp_tidy (dCons (dTup (dCons (dC (.str "beside")) (dCons (dVar 0) (dCons (dVar 4) dNil)))) dNil)) dNil))) [3, 4]))))))

def r_steps_of (sp_tidy : DSp) (sp_steps_of : DSp) (sp_beside_steps : DSp) (sp_loop_steps : DSp) (sp_some_steps : DSp) (sp_ticks_left : DSp) : DTS :=
  (dMatch (dOp rIx (dVar 0) (dC (.int 0))) [(some "tick", (dRet (dFrz (dLst (dCons (dTup (dCons (dC (.str "tick")) (dCons (dCall sp_ticks_left (dCons (dOp rSub (dOp rIx (dVar 0) (dC (.int 1))) (dC (.int 1))) dNil)) dNil))) dNil))))),
  (some "some", (dRet (dCall sp_some_steps (dCons (dOp rIx (dVar 0) (dC (.int 1))) (dCons (dOp rIx (dVar 0) (dC (.int 2))) (dCons (dOp rIx (dVar 0) (dC (.int 3))) dNil)))))),
  (some "loop", (dRet (dCall sp_loop_steps (dCons (dOp rIx (dVar 0) (dC (.int 1))) (dCons (dOp rIx (dVar 0) (dC (.int 2))) (dCons (dOp rIx (dVar 0) (dC (.int 3))) (dCons (dOp rIx (dVar 0) (dC (.int 4))) dNil))))))),
  (some "either", (dRet (dFrz (dLc (iEnT (dOp rIx (dVar 0) (dC (.int 1)))) (.tup [1, 2]) dYes (dTup (dCons (dTup (dCons (dC (.str "way")) (dCons (dVar 1) dNil))) (dCons (dCall sp_tidy (dCons (dVar 2) dNil)) dNil))) [1, 2])))),
  (some "beside", (dRet (dCall sp_beside_steps (dCons (dOp rIx (dVar 0) (dC (.int 1))) (dCons (dOp rIx (dVar 0) (dC (.int 2))) dNil))))),
  (none, (dSeq (dAsg (dSl (dOp rIx (dVar 0) (dC (.int 1))) (dP (dC (.int 1))) dNoP) (gNm 3))
  (dSeq (dAsg (dIf (dTst (dOp rNev (dOp rIx (dVar 0) (dC (.int 1))) (dTup dNil))) (dCall sp_steps_of (dCons (dOp rIx (dOp rIx (dVar 0) (dC (.int 1))) (dC (.int 0))) dNil)) (dFrz (dLst dNil))) (gNm 4))
  (dRet (dFrz (dLc (iSq (dVar 4)) (.tup [5, 6]) dYes (dTup (dCons (dVar 5) (dCons (dCall sp_tidy (dCons (dTup (dCons (dC (.str "row")) (dCons (dTup (dCons (dVar 6) (dStar (dVar 3) dNil))) dNil))) dNil)) dNil))) [5, 6]))))))])

def r_is_tick : DTS :=
  (dSeq (dWhile (dTst (dOp (rInn id) (dOp rIxA (dVar 0) (dC (.int 0))) (dTup (dCons (dC (.str "left")) (dCons (dC (.str "right")) dNil)))))
  (dAsg (dOp rIxA (dVar 0) (dC (.int 1))) (gNm 0)))
  (dRet (dOp rEqv (dVar 0) (dC (.str "tick")))))

def r_states_of (sp_steps_of : DSp) (sp_is_tick : DSp) (sp_tidy : DSp) : DTS :=
  (dSeq (dAsg (dTup (dCons (dC (.int 0)) (dCons (dCall sp_tidy (dCons (dVar 0) dNil)) dNil))) (gNm 1))
  (dSeq (dAsg (dDisp [((dCB rRepr (dCons (dVar 1) dNil)), (dVar 1))]) (gNm 2))
  (dSeq (dAsg (dLst (dCons (dVar 1) dNil)) (gNm 3))
  (dSeq (dWhile (dTst (dOp rNev (dVar 3) (dFrz (dLst dNil))))
  (dSeq (dAsg (dMt mPop (dVar 3) dNil) (gTp 2 (gsCons (gNm 4) (gsCons (gNm 5) gsNil))))
  (dFor (iSq (dCall sp_steps_of (dCons (dVar 5) dNil))) (gTp 2 (gsCons (gNm 6) (gsCons (gNm 7) gsNil)))
  (dSeq (dAsg (dTup (dCons (dOp rAdd (dVar 4) (dCB rIntC (dCons (dCall sp_is_tick (dCons (dVar 6) dNil)) dNil))) (dCons (dVar 7) dNil))) (gNm 8))
  (dIfS (dTst (dOp (rDIn not) (dCB rRepr (dCons (dVar 8) dNil)) (dVar 2)))
  (dSeq (dAsg (dVar 8) (gSb (dVar 2) (dCB rRepr (dCons (dVar 8) dNil)) sDct))
  (dDrop (dMt mAppend (dVar 3) (dCons (dVar 8) dNil))))
  dNext)))))
  (dRet (dCB rTupC (dCons (dFrz (dCB rSortD (dCons (dFrz (dLsV (dVar 2))) dNil))) dNil)))))))

def r_law_feed : DTS :=
  (dRet (dDisp [((dC (.str "cells")), (dFrz (dCB rLstC (dCons (dFrz (dSl (dVar 0) dNoP (dP (dC (.int 63))))) dNil)))), ((dC (.str "at")), (dC (.int 0))), ((dC (.str "left")), (dC (.int 0))), ((dC (.str "turn")), (dC (.int 0)))]))

def r_law_draw : DTS :=
  (dSeq (dAsg (dOp rAdd (dDGet (dVar 0) (dC (.str "turn"))) (dC (.int 1))) (gSb (dVar 0) (dC (.str "turn")) sDct))
  (dSeq (dIfS (dTst (dOp rEqv (dDGet (dVar 0) (dC (.str "cells"))) (dFrz (dLst dNil))))
  (dRet (dOp rMod (dCB rIntC (dCons (dOp rFdiv (dOp rMul (dDGet (dVar 0) (dC (.str "turn"))) (dC (.int 7))) (dC (.int 4))) dNil)) (dVar 1)))
  dNext)
  (dSeq (dIfS (dTst (dOp rGt (dDGet (dVar 0) (dC (.str "left"))) (dC (.int 0))))
  (dSeq (dAsg (dOp rMod (dCB rIntC (dCons (dDGet (dVar 0) (dC (.str "left"))) dNil)) (dVar 1)) (gNm 2))
  (dSeq (dAsg (dOp rFdiv (dDGet (dVar 0) (dC (.str "left"))) (dVar 1)) (gSb (dVar 0) (dC (.str "left")) sDct))
  (dRet (dVar 2))))
  dNext)
  (dSeq (dAsg (dDGet (dVar 0) (dC (.str "at"))) (gNm 3))
  (dSeq (dAsg (dOp rAdd (dVar 3) (dC (.int 1))) (gSb (dVar 0) (dC (.str "at")) sDct))
  (dSeq (dAsg (dOp rIx (dDGet (dVar 0) (dC (.str "cells"))) (dOp rMod (dCB rIntC (dCons (dVar 3) dNil)) (dCB rLen (dCons (dDGet (dVar 0) (dC (.str "cells"))) dNil)))) (gNm 4))
  (dSeq (dIfS (dAnd (dTst (dOp rGe (dVar 4) (dOp rPow (dC (.int 10)) (dC (.int 18))))) (dTst (dOp rLt (dVar 3) (dCB rLen (dCons (dDGet (dVar 0) (dC (.str "cells"))) dNil)))))
  (dSeq (dAsg (dOp rFdiv (dVar 4) (dVar 1)) (gSb (dVar 0) (dC (.str "left")) sDct))
  (dRet (dOp rMod (dCB rIntC (dCons (dVar 4) dNil)) (dVar 1))))
  dNext)
  (dSeq (dAsg (dOp rMod (dCB rIntC (dCons (dOp rAdd (dOp rAdd (dOp rMod (dCB rIntC (dCons (dVar 4) dNil)) (dC (.int 1000003097))) (dOp rMul (dC (.int 97381)) (dDGet (dVar 0) (dC (.str "turn"))))) (dC (.int 811))) dNil)) (dC (.int 2147483563))) (gNm 5))
  (dSeq (dAsg (dOp rMod (dCB rIntC (dCons (dOp rAdd (dOp rAdd (dOp rPow (dVar 5) (dC (.int 3))) (dOp rMul (dC (.int 7401211)) (dDGet (dVar 0) (dC (.str "turn"))))) (dC (.int 443))) dNil)) (dC (.int 2147483489))) (gNm 5))
  (dRet (dOp rMod (dCB rIntC (dCons (dOp rFdiv (dOp rMod (dCB rIntC (dCons (dOp rAdd (dOp rPow (dVar 5) (dC (.int 3))) (dOp rMul (dC (.int 397)) (dVar 5))) dNil)) (dC (.int 2147483399))) (dC (.int 32))) dNil)) (dVar 1))))))))))))

def r_law_tidy (sp_law_tidy : DSp) : DTS :=
  (dSeq (dIfS (dTst (dOp rEqv (dOp rIx (dVar 0) (dC (.int 0))) (dC (.str "beside"))))
  (dSeq (dPar 1 2 (dCons (dCall sp_law_tidy (dCons (dOp rIx (dVar 0) (dC (.int 1))) dNil)) (dCons (dCall sp_law_tidy (dCons (dOp rIx (dVar 0) (dC (.int 2))) dNil)) dNil)))
  (dRet (dIf (dAnd (dTst (dOp rEqv (dVar 1) (dTup (dCons (dC (.str "row")) (dCons (dTup dNil) dNil))))) (dTst (dOp rEqv (dVar 2) (dTup (dCons (dC (.str "row")) (dCons (dTup dNil) dNil)))))) (dTup (dCons (dC (.str "row")) (dCons (dTup dNil) dNil))) (dTup (dCons (dC (.str "beside")) (dCons (dVar 1) (dCons (dVar 2) dNil)))))))
  dNext)
  (dSeq (dIfS (dTst (dOp rNev (dOp rIx (dVar 0) (dC (.int 0))) (dC (.str "row"))))
  (dRet (dVar 0))
  dNext)
  (dSeq (dAsg (dLst dNil) (gNm 3))
  (dSeq (dFor (iSq (dOp rIx (dVar 0) (dC (.int 1)))) (gNm 4)
  (dSeq (dAsg (dCall sp_law_tidy (dCons (dVar 4) dNil)) (gNm 5))
  (dDrop (dMt mExtend (dVar 3) (dCons (dIf (dTst (dOp rEqv (dOp rIx (dVar 5) (dC (.int 0))) (dC (.str "row")))) (dFrz (dCB rLstC (dCons (dOp rIx (dVar 5) (dC (.int 1))) dNil))) (dFrz (dLst (dCons (dVar 5) dNil)))) dNil)))))
  (dRet (dIf (dTst (dOp rEqv (dCB rLen (dCons (dVar 3) dNil)) (dC (.int 1)))) (dOp rIx (dVar 3) (dC (.int 0))) (dTup (dCons (dC (.str "row")) (dCons (dCB rTupC (dCons (dVar 3) dNil)) dNil)))))))))

def r_law_next (sp_law_next : DSp) : DTS :=
  (dSeq (dAsg (dOp rIx (dVar 0) (dC (.int 0))) (gNm 1))
  (dSeq (dIfS (dTst (dOp rEqv (dVar 1) (dC (.str "tick"))))
  (dRet (dFrz (dLst (dCons (dC (.str "tick")) dNil))))
  dNext)
  (dSeq (dIfS (dTst (dOp rEqv (dVar 1) (dC (.str "row"))))
  (dRet (dIf (dTst (dOp rNev (dOp rIx (dVar 0) (dC (.int 1))) (dTup dNil))) (dCall sp_law_next (dCons (dOp rIx (dOp rIx (dVar 0) (dC (.int 1))) (dC (.int 0))) dNil)) (dFrz (dLst dNil))))
  dNext)
  (dSeq (dIfS (dAnd (dTst (dOp (rInn id) (dVar 1) (dTup (dCons (dC (.str "some")) (dCons (dC (.str "loop")) dNil))))) (dTru (dOp rIx (dVar 0) (dC (.int 3)))))
  (dRet (dFrz (dLc (iRg2 (dCons (dOp rIx (dVar 0) (dC (.int 1))) (dCons (dOp rAdd (dOp rIx (dVar 0) (dC (.int 2))) (dC (.int 1))) dNil))) (.one 2) dYes (dTup (dCons (dC (.str "many")) (dCons (dVar 2) dNil))) [2])))
  dNext)
  (dSeq (dIfS (dTst (dOp (rInn id) (dVar 1) (dTup (dCons (dC (.str "some")) (dCons (dC (.str "loop")) dNil)))))
  (dSeq (dAsg (dFrz (dOp rMul (dFrz (dLst (dCons (dDGet (dDisp [((dC (.str "some")), (dC (.str "tick"))), ((dC (.str "loop")), (dC (.str "more")))]) (dVar 1)) dNil))) (dCB rIntC (dCons (dOp rGt (dOp rIx (dVar 0) (dC (.int 2))) (dC (.int 0))) dNil)))) (gNm 3))
  (dRet (dFrz (dOp rAdd (dVar 3) (dFrz (dOp rMul (dFrz (dLst (dCons (dC (.str "end")) dNil))) (dCB rIntC (dCons (dOp rEqv (dOp rIx (dVar 0) (dC (.int 1))) (dC (.int 0))) dNil))))))))
  dNext)
  (dSeq (dIfS (dTst (dOp rEqv (dVar 1) (dC (.str "either"))))
  (dRet (dFrz (dLc (iRg1 (dCons (dCB rLen (dCons (dOp rIx (dVar 0) (dC (.int 1))) dNil)) dNil)) (.one 4) dYes (dTup (dCons (dC (.str "way")) (dCons (dVar 4) dNil))) [4])))
  dNext)
  (dRet (dFrz (dOp rAdd (dFrz (dLc (iSq (dCall sp_law_next (dCons (dOp rIx (dVar 0) (dC (.int 1))) dNil))) (.one 5) dYes (dTup (dCons (dC (.str "left")) (dCons (dVar 5) dNil))) [5])) (dFrz (dLc (iSq (dCall sp_law_next (dCons (dOp rIx (dVar 0) (dC (.int 2))) dNil))) (.one 5) dYes (dTup (dCons (dC (.str "right")) (dCons (dVar 5) dNil))) [5])))))))))))

def r_law_behind (sp_law_behind : DSp) : DTS :=
  (dSeq (dAsg (dOp rIx (dVar 0) (dC (.int 0))) (gNm 2))
  (dSeq (dIfS (dTst (dOp rEqv (dVar 2) (dC (.str "row"))))
  (dRet (dTup (dCons (dC (.str "row")) (dCons (dOp rAdd (dTup (dCons (dCall sp_law_behind (dCons (dOp rIx (dOp rIx (dVar 0) (dC (.int 1))) (dC (.int 0))) (dCons (dVar 1) dNil))) dNil)) (dSl (dOp rIx (dVar 0) (dC (.int 1))) (dP (dC (.int 1))) dNoP)) dNil))))
  dNext)
  (dSeq (dIfS (dTst (dOp rEqv (dVar 2) (dC (.str "beside"))))
  (dSeq (dIfS (dTst (dOp rEqv (dOp rIx (dVar 1) (dC (.int 0))) (dC (.str "left"))))
  (dRet (dTup (dCons (dC (.str "beside")) (dCons (dCall sp_law_behind (dCons (dOp rIx (dVar 0) (dC (.int 1))) (dCons (dOp rIx (dVar 1) (dC (.int 1))) dNil))) (dCons (dOp rIx (dVar 0) (dC (.int 2))) dNil)))))
  dNext)
  (dRet (dTup (dCons (dC (.str "beside")) (dCons (dOp rIx (dVar 0) (dC (.int 1))) (dCons (dCall sp_law_behind (dCons (dOp rIx (dVar 0) (dC (.int 2))) (dCons (dOp rIx (dVar 1) (dC (.int 1))) dNil))) dNil))))))
  dNext)
  (dSeq (dIfS (dTst (dOp rEqv (dVar 2) (dC (.str "either"))))
  (dRet (dOp rIx (dOp rIx (dVar 0) (dC (.int 1))) (dOp rIx (dVar 1) (dC (.int 1)))))
  dNext)
  (dSeq (dIfS (dTst (dOp rEqv (dVar 1) (dC (.str "end"))))
  (dRet (dTup (dCons (dC (.str "row")) (dCons (dTup dNil) dNil))))
  dNext)
  (dSeq (dIfS (dOr (dTst (dOp rEqv (dVar 2) (dC (.str "tick")))) (dAnd (dTst (dOp rEqv (dVar 2) (dC (.str "some")))) (dTru (dOp rIx (dVar 0) (dC (.int 3))))))
  (dSeq (dAsg (dIf (dTst (dOp rEqv (dVar 2) (dC (.str "tick")))) (dOp rSub (dOp rIx (dVar 0) (dC (.int 1))) (dC (.int 1))) (dOp rIx (dVar 1) (dC (.int 1)))) (gNm 3))
  (dRet (dIf (dTst (dOp rGt (dVar 3) (dC (.int 0)))) (dTup (dCons (dC (.str "tick")) (dCons (dVar 3) dNil))) (dTup (dCons (dC (.str "row")) (dCons (dTup dNil) dNil))))))
  dNext)
  (dSeq (dIfS (dTst (dOp rEqv (dVar 2) (dC (.str "some"))))
  (dRet (dTup (dCons (dC (.str "some")) (dCons (dCB rMax2 (dCons (dC (.int 0)) (dCons (dOp rSub (dOp rIx (dVar 0) (dC (.int 1))) (dC (.int 1))) dNil))) (dCons (dOp rSub (dOp rIx (dVar 0) (dC (.int 2))) (dC (.int 1))) (dCons (dC (.bl false)) dNil))))))
  dNext)
  (dSeq (dIfS (dTru (dOp rIx (dVar 0) (dC (.int 3))))
  (dRet (dTup (dCons (dC (.str "row")) (dCons (dOp rMul (dTup (dCons (dOp rIx (dVar 0) (dC (.int 4))) dNil)) (dOp rIx (dVar 1) (dC (.int 1)))) dNil))))
  dNext)
  (dRet (dTup (dCons (dC (.str "row")) (dCons (dTup (dCons (dOp rIx (dVar 0) (dC (.int 4))) (dCons (dTup (dCons (dC (.str "loop")) (dCons (dCB rMax2 (dCons (dC (.int 0)) (dCons (dOp rSub (dOp rIx (dVar 0) (dC (.int 1))) (dC (.int 1))) dNil))) (dCons (dOp rSub (dOp rIx (dVar 0) (dC (.int 2))) (dC (.int 1))) (dCons (dC (.bl false)) (dCons (dOp rIx (dVar 0) (dC (.int 4))) dNil)))))) dNil))) dNil))))))))))))

def r_law_after (sp_law_tidy : DSp) (sp_law_behind : DSp) : DTS :=
  (dRet (dCall sp_law_tidy (dCons (dCall sp_law_behind (dCons (dVar 0) (dCons (dVar 1) dNil))) dNil)))

def r_law_is_tick (sp_law_is_tick : DSp) : DTS :=
  (dSeq (dIfS (dTru (dIsi "tuple" (dVar 0)))
  (dRet (dIf (dTst (dOp (rInn id) (dOp rIx (dVar 0) (dC (.int 0))) (dTup (dCons (dC (.str "left")) (dCons (dC (.str "right")) dNil))))) (dCall sp_law_is_tick (dCons (dOp rIx (dVar 0) (dC (.int 1))) dNil)) (dC (.int 0))))
  dNext)
  (dRet (dCB rIntC (dCons (dOp rEqv (dVar 0) (dC (.str "tick"))) dNil))))

def r_law_runs (sp_law_after : DSp) (sp_law_next : DSp) (sp_law_tidy : DSp) : DTS :=
  (dSeq (dPar 2 3 (dCons (dLst dNil) (dCons (dLst (dCons (dTup (dCons (dTup dNil) (dCons (dCall sp_law_tidy (dCons (dVar 0) dNil)) dNil))) dNil)) dNil)))
  (dSeq (dWhile (dAnd (dTst (dOp rNev (dVar 3) (dFrz (dLst dNil)))) (dTst (dOp rLe (dCB rLen (dCons (dVar 2) dNil)) (dVar 1))))
  (dSeq (dAsg (dMt mPop (dVar 3) dNil) (gTp 2 (gsCons (gNm 4) (gsCons (gNm 5) gsNil))))
  (dSeq (dAsg (dCall sp_law_next (dCons (dVar 5) dNil)) (gNm 6))
  (dSeq (dIfS (dTst (dOp rEqv (dVar 6) (dFrz (dLst dNil))))
  (dDrop (dMt mAppend (dVar 2) (dCons (dVar 4) dNil)))
  dNext)
  (dDrop (dMt mExtend (dVar 3) (dCons (dFrz (dLc (iSq (dFrz (dRev (dVar 6)))) (.one 7) dYes (dTup (dCons (dOp rAdd (dVar 4) (dTup (dCons (dVar 7) dNil))) (dCons (dCall sp_law_after (dCons (dVar 5) (dCons (dVar 7) dNil))) dNil))) [7])) dNil)))))))
  (dRet (dFrz (dVar 2)))))

def r_law_end (sp_law_end : DSp) : DTS :=
  (dSeq (dAsg (dOp rIx (dVar 0) (dC (.int 0))) (gNm 2))
  (dSeq (dIfS (dTst (dOp rEqv (dVar 2) (dC (.str "tick"))))
  (dRet (dOp rIx (dVar 0) (dC (.int 1))))
  dNext)
  (dSeq (dIfS (dTst (dOp (rInn id) (dVar 2) (dTup (dCons (dC (.str "some")) (dCons (dC (.str "loop")) dNil)))))
  (dSeq (dAsg (dIf (dTru (dVar 1)) (dOp rIx (dVar 0) (dC (.int 1))) (dOp rIx (dVar 0) (dC (.int 2)))) (gNm 3))
  (dRet (dIf (dTst (dOp rEqv (dVar 2) (dC (.str "some")))) (dVar 3) (dOp rMul (dVar 3) (dCall sp_law_end (dCons (dOp rIx (dVar 0) (dC (.int 4))) (dCons (dVar 1) dNil)))))))
  dNext)
  (dSeq (dIfS (dTst (dOp rEqv (dVar 2) (dC (.str "beside"))))
  (dRet (dOp rAdd (dCall sp_law_end (dCons (dOp rIx (dVar 0) (dC (.int 1))) (dCons (dVar 1) dNil))) (dCall sp_law_end (dCons (dOp rIx (dVar 0) (dC (.int 2))) (dCons (dVar 1) dNil)))))
  dNext)
  (dSeq (dAsg (dFrz (dLc (iSq (dOp rIx (dVar 0) (dC (.int 1)))) (.one 5) dYes (dCall sp_law_end (dCons (dVar 5) (dCons (dVar 1) dNil))) [5])) (gNm 4))
  (dSeq (dIfS (dTst (dOp rEqv (dVar 2) (dC (.str "row"))))
  (dRet (dCB rSumC (dCons (dVar 4) dNil)))
  dNext)
  (dRet (dIf (dTru (dVar 1)) (dCB rMinC (dCons (dVar 4) dNil)) (dCB rMaxC (dCons (dVar 4) dNil))))))))))

def r_law_states (sp_law_next : DSp) (sp_law_after : DSp) (sp_law_is_tick : DSp) (sp_law_tidy : DSp) : DTS :=
  (dSeq (dAsg (dLst (dCons (dTup (dCons (dC (.int 0)) (dCons (dCall sp_law_tidy (dCons (dVar 0) dNil)) dNil))) dNil)) (gNm 1))
  (dSeq (dPar 2 3 (dCons (dDisp [((dCB rRepr (dCons (dOp rIx (dVar 1) (dC (.int 0))) dNil)), (dC (.int 1)))]) (dCons (dLst dNil) dNil)))
  (dSeq (dWhile (dTst (dOp rNev (dVar 1) (dFrz (dLst dNil))))
  (dSeq (dAsg (dMt mPop (dVar 1) dNil) (gTp 2 (gsCons (gNm 4) (gsCons (gNm 5) gsNil))))
  (dSeq (dDrop (dMt mAppend (dVar 3) (dCons (dTup (dCons (dVar 4) (dCons (dVar 5) dNil))) dNil)))
  (dFor (iSq (dCall sp_law_next (dCons (dVar 5) dNil))) (gNm 6)
  (dSeq (dAsg (dTup (dCons (dOp rAdd (dVar 4) (dCall sp_law_is_tick (dCons (dVar 6) dNil))) (dCons (dCall sp_law_after (dCons (dVar 5) (dCons (dVar 6) dNil))) dNil))) (gNm 7))
  (dIfS (dTst (dOp (rDIn not) (dCB rRepr (dCons (dVar 7) dNil)) (dVar 2)))
  (dSeq (dAsg (dC (.int 1)) (gSb (dVar 2) (dCB rRepr (dCons (dVar 7) dNil)) sDct))
  (dDrop (dMt mAppend (dVar 1) (dCons (dVar 7) dNil))))
  dNext))))))
  (dRet (dCB rTupC (dCons (dFrz (dCB rSortD (dCons (dVar 3) dNil))) dNil))))))

def r_law_rounds : DTS :=
  (dSeq (dAsg (dFrz (dLc (iSq (dTup (dCons (dC (.bl false)) (dCons (dC (.bl true)) dNil)))) (.one 1) dYes (dTup (dCons (dC (.str "row")) (dCons (dTup (dCons (dTup (dCons (dC (.str "tick")) (dCons (dC (.int 2)) dNil))) (dCons (dTup (dCons (dC (.str "loop")) (dCons (dC (.int 1)) (dCons (dC (.int 3)) (dCons (dVar 1) (dCons (dTup (dCons (dC (.str "tick")) (dCons (dC (.int 2)) dNil))) dNil)))))) dNil))) dNil))) [1])) (gNm 0))
  (dRet (dTup (dCons (dOp rIx (dVar 0) (dC (.int 0))) (dCons (dOp rIx (dVar 0) (dC (.int 1))) dNil)))))

def r_law_job (sp_law_draw : DSp) (sp_law_job : DSp) : DTS :=
  (dSeq (dAsg (dIf (dAnd (dTst (dOp rGt (dVar 1) (dC (.int 0)))) (dTst (dOp rGt (dOp rIx (dVar 2) (dC (.int 0))) (dC (.int 1))))) (dCall sp_law_draw (dCons (dVar 0) (dCons (dC (.int 9)) dNil))) (dCall sp_law_draw (dCons (dVar 0) (dCons (dC (.int 3)) dNil)))) (gNm 3))
  (dSeq (dPar 4 5 (dCons (dCall sp_law_draw (dCons (dVar 0) (dCons (dC (.int 2)) dNil))) (dCons (dC (.int 1)) dNil)))
  (dSeq (dIfS (dTst (dOp rEqv (dVar 3) (dC (.int 0))))
  (dRet (dTup (dCons (dC (.str "tick")) (dCons (dOp rAdd (dC (.int 1)) (dCall sp_law_draw (dCons (dVar 0) (dCons (dC (.int 3)) dNil)))) dNil))))
  dNext)
  (dSeq (dIfS (dTst (dOp rLt (dVar 3) (dC (.int 3))))
  (dRet (dTup (dCons (dC (.str "some")) (dCons (dVar 4) (dCons (dOp rAdd (dVar 4) (dCall sp_law_draw (dCons (dVar 0) (dCons (dC (.int 3)) dNil)))) (dCons (dOp rEqv (dVar 3) (dC (.int 1))) dNil))))))
  dNext)
  (dSeq (dIfS (dTst (dOp rLt (dVar 3) (dC (.int 5))))
  (dAsg (dCB rMin2 (dCons (dCall sp_law_draw (dCons (dVar 0) (dCons (dC (.int 4)) dNil))) (dCons (dOp rIx (dVar 2) (dC (.int 0))) dNil))) (gNm 5))
  (dIfS (dTst (dOp rGt (dVar 3) (dC (.int 6))))
  (dAsg (dIf (dOr (dTst (dOp rEqv (dVar 3) (dC (.int 7)))) (dNot (dTru (dOp rIx (dVar 2) (dC (.int 1)))))) (dOp rAdd (dC (.int 1)) (dCall sp_law_draw (dCons (dVar 0) (dCons (dC (.int 2)) dNil)))) (dC (.int 2))) (gNm 5))
  dNext))
  (dSeq (dAsg (dAndV (dOp rEqv (dVar 3) (dC (.int 8))) (dOp rIx (dVar 2) (dC (.int 1)))) (gNm 6))
  (dSeq (dAsg (dTup (dCons (dOp rSub (dOp rIx (dVar 2) (dC (.int 0))) (dVar 5)) (dCons (dAndV (dOp rIx (dVar 2) (dC (.int 1))) (dNotV (dVar 6))) dNil))) (gTp 2 (gsCons (gSb (dVar 2) (dC (.int 0)) sLst) (gsCons (gSb (dVar 2) (dC (.int 1)) sLst) gsNil))))
  (dSeq (dAsg (dFrz (dLc (iRg1 (dCons (dVar 5) dNil)) (.one 8) dYes (dCall sp_law_job (dCons (dVar 0) (dCons (dOp rSub (dVar 1) (dC (.int 1))) (dCons (dVar 2) dNil)))) [8])) (gNm 7))
  (dSeq (dIfS (dTst (dOp (rInn id) (dVar 3) (dTup (dCons (dC (.int 5)) (dCons (dC (.int 6)) dNil)))))
  (dRet (dTup (dCons (dC (.str "loop")) (dCons (dVar 4) (dCons (dOp rAdd (dVar 4) (dCall sp_law_draw (dCons (dVar 0) (dCons (dC (.int 3)) dNil)))) (dCons (dOp rEqv (dVar 3) (dC (.int 5))) (dCons (dOp rIx (dVar 7) (dC (.int 0))) dNil)))))))
  dNext)
  (dSeq (dIfS (dTru (dVar 6))
  (dRet (dTup (dCons (dC (.str "beside")) (dCons (dOp rIx (dVar 7) (dC (.int 0))) (dCons (dOp rIx (dVar 7) (dC (.int 1))) dNil)))))
  dNext)
  (dRet (dTup (dCons (dIf (dTst (dOp rLt (dVar 3) (dC (.int 5)))) (dC (.str "row")) (dC (.str "either"))) (dCons (dCB rTupC (dCons (dVar 7) dNil)) dNil))))))))))))))

def r_law_some_job (sp_law_runs : DSp) (sp_law_rounds : DSp) (sp_law_draw : DSp) (sp_law_small_job : DSp) : DTS :=
  (dSeq (dAsg (dCall sp_law_small_job (dCons (dVar 0) (dCons (dC (.int 3)) (dCons (dLst (dCons (dC (.int 7)) (dCons (dOp rEqv (dCall sp_law_draw (dCons (dVar 0) (dCons (dC (.int 2)) dNil))) (dC (.int 0))) dNil))) dNil)))) (gNm 2))
  (dRet (dIf (dTst (dOp rLe (dCB rLen (dCons (dCall sp_law_runs (dCons (dVar 2) (dCons (dVar 1) dNil))) dNil)) (dVar 1))) (dVar 2) (dOp rIx (dCall sp_law_rounds dNil) (dCall sp_law_draw (dCons (dVar 0) (dCons (dC (.int 2)) dNil)))))))

def r_law_sides : DTS :=
  (dRet (dTup (dCons (dC (.str "beside")) (dCons (dTup (dCons (dC (.str "tick")) (dCons (dC (.int 1)) dNil))) (dCons (dTup (dCons (dC (.str "some")) (dCons (dC (.int 0)) (dCons (dC (.int 1)) (dCons (dC (.bl false)) dNil))))) dNil)))))

def r_law_great : DTS :=
  (dSeq (dAsg (dTup (dCons (dC (.str "row")) (dCons (dTup (dCons (dTup (dCons (dC (.str "tick")) (dCons (dC (.int 2)) dNil))) (dCons (dTup (dCons (dC (.str "some")) (dCons (dC (.int 0)) (dCons (dC (.int 2)) (dCons (dC (.bl false)) dNil))))) dNil))) dNil))) (gNm 0))
  (dSeq (dAsg (dTup (dCons (dC (.str "row")) (dCons (dTup (dCons (dTup (dCons (dC (.str "loop")) (dCons (dC (.int 1)) (dCons (dC (.int 3)) (dCons (dC (.bl false)) (dCons (dVar 0) dNil)))))) (dCons (dTup (dCons (dC (.str "either")) (dCons (dTup (dCons (dTup (dCons (dC (.str "tick")) (dCons (dC (.int 5)) dNil))) (dCons (dTup (dCons (dC (.str "some")) (dCons (dC (.int 0)) (dCons (dC (.int 2)) (dCons (dC (.bl true)) dNil))))) dNil))) dNil))) dNil))) dNil))) (gNm 1))
  (dSeq (dAsg (dTup (dCons (dC (.str "row")) (dCons (dTup (dCons (dTup (dCons (dC (.str "tick")) (dCons (dC (.int 5)) dNil))) (dCons (dTup (dCons (dC (.str "beside")) (dCons (dTup (dCons (dC (.str "some")) (dCons (dC (.int 1)) (dCons (dC (.int 3)) (dCons (dC (.bl true)) dNil))))) (dCons (dTup (dCons (dC (.str "loop")) (dCons (dC (.int 0)) (dCons (dC (.int 3)) (dCons (dC (.bl false)) (dCons (dTup (dCons (dC (.str "tick")) (dCons (dC (.int 2)) dNil))) dNil)))))) dNil)))) dNil))) dNil))) (gNm 2))
  (dRet (dTup (dCons (dVar 1) (dCons (dVar 2) (dCons (dTup (dCons (dC (.str "row")) (dCons (dTup (dCons (dTup (dCons (dC (.str "tick")) (dCons (dC (.int 12)) dNil))) (dCons (dTup (dCons (dC (.str "loop")) (dCons (dC (.int 3)) (dCons (dC (.int 12)) (dCons (dC (.bl false)) (dCons (dTup (dCons (dC (.str "tick")) (dCons (dC (.int 4)) dNil))) dNil)))))) dNil))) dNil))) dNil))))))))

def r_law_is_small (sp_law_end : DSp) (sp_law_next : DSp) (sp_law_after : DSp) (sp_law_is_tick : DSp) (sp_law_tidy : DSp) : DTS :=
  (dSeq (dAsg (dLst (dCons (dTup (dCons (dC (.int 0)) (dCons (dCall sp_law_tidy (dCons (dVar 0) dNil)) dNil))) dNil)) (gNm 1))
  (dSeq (dAsg (dDisp [((dCB rRepr (dCons (dOp rIx (dVar 1) (dC (.int 0))) dNil)), (dC (.int 1)))]) (gNm 2))
  (dSeq (dWhile (dAnd (dTst (dOp rNev (dVar 1) (dFrz (dLst dNil)))) (dTst (dOp rLe (dCB rLen (dCons (dVar 2) dNil)) (dC (.int 200)))))
  (dSeq (dAsg (dMt mPop (dVar 1) dNil) (gTp 2 (gsCons (gNm 3) (gsCons (gNm 4) gsNil))))
  (dFor (iSq (dCall sp_law_next (dCons (dVar 4) dNil))) (gNm 5)
  (dSeq (dAsg (dTup (dCons (dOp rAdd (dVar 3) (dCall sp_law_is_tick (dCons (dVar 5) dNil))) (dCons (dCall sp_law_after (dCons (dVar 4) (dCons (dVar 5) dNil))) dNil))) (gNm 6))
  (dIfS (dTst (dOp (rDIn not) (dCB rRepr (dCons (dVar 6) dNil)) (dVar 2)))
  (dSeq (dAsg (dC (.int 1)) (gSb (dVar 2) (dCB rRepr (dCons (dVar 6) dNil)) sDct))
  (dDrop (dMt mAppend (dVar 1) (dCons (dVar 6) dNil))))
  dNext)))))
  (dRet (dAndV (dOp rLe (dCB rLen (dCons (dVar 2) dNil)) (dC (.int 200))) (dOp rLe (dCall sp_law_end (dCons (dVar 0) (dCons (dC (.bl false)) dNil))) (dC (.int 60))))))))

def r_law_small_job (sp_law_is_small : DSp) (sp_law_rounds : DSp) (sp_law_draw : DSp) (sp_law_job : DSp) : DTS :=
  (dSeq (dAsg (dCall sp_law_job (dCons (dVar 0) (dCons (dVar 1) (dCons (dVar 2) dNil)))) (gNm 3))
  (dRet (dIf (dTru (dCall sp_law_is_small (dCons (dVar 3) dNil))) (dVar 3) (dOp rIx (dCall sp_law_rounds dNil) (dCall sp_law_draw (dCons (dVar 0) (dCons (dC (.int 2)) dNil)))))))

def r_law_agrees (sp_states_of : DSp) (sp_law_states : DSp) : DTS :=
  (dSeq (dPar 1 2 (dCons (dCB rRepr (dCons (dVar 0) dNil)) (dCons (dCall sp_law_states (dCons (dVar 0) dNil)) dNil)))
  (dRet (dAndV (dOp rEqv (dCB rRepr (dCons (dFrz (dLst (dCons (dCall sp_states_of (dCons (dVar 0) dNil)) (dCons (dCall sp_states_of (dCons (dVar 0) dNil)) dNil)))) dNil)) (dCB rRepr (dCons (dFrz (dLst (dCons (dVar 2) (dCons (dVar 2) dNil)))) dNil))) (dOp rEqv (dCB rRepr (dCons (dVar 0) dNil)) (dVar 1)))))

def r_law (sp_law_agrees : DSp) (sp_law_some_job : DSp) (sp_law_rounds : DSp) (sp_law_sides : DSp) (sp_law_draw : DSp) (sp_law_great : DSp) (sp_states_of : DSp) (sp_law_feed : DSp) : DTS :=
  (dSeq (dAsg (dCall sp_law_feed (dCons (dVar 0) dNil)) (gNm 1))
  (dSeq (dAsg (dTup (dCons (dC (.str "row")) (dCons (dTup dNil) dNil))) (gNm 2))
  (dSeq (dAsg (dFrz (dLst (dCons (dVar 2) (dCons (dTup (dCons (dC (.str "row")) (dCons (dTup (dCons (dVar 2) (dCons (dTup (dCons (dC (.str "row")) (dCons (dTup (dCons (dTup (dCons (dC (.str "tick")) (dCons (dC (.int 1)) dNil))) (dCons (dTup (dCons (dC (.str "tick")) (dCons (dC (.int 2)) dNil))) dNil))) dNil))) dNil))) dNil))) (dCons (dTup (dCons (dC (.str "either")) (dCons (dTup (dCons (dTup (dCons (dC (.str "tick")) (dCons (dC (.int 2)) dNil))) (dCons (dVar 2) (dCons (dTup (dCons (dC (.str "tick")) (dCons (dC (.int 1)) dNil))) dNil)))) dNil))) dNil))))) (gNm 3))
  (dSeq (dIfS (dOr (dTst (dOp rNev (dCall sp_states_of (dCons (dVar 2) dNil)) (dTup (dCons (dTup (dCons (dC (.int 0)) (dCons (dVar 2) dNil))) dNil)))) (dTst (dOp rNev (dCB rLen (dCons (dCall sp_states_of (dCons (dOp rIx (dCall sp_law_rounds dNil) (dC (.int 0))) dNil)) dNil)) (dC (.int 15)))))
  (dRet (dC (.bl false)))
  dNext)
  (dSeq (dIfS (dAnd (dTst (dOp rNeS (dVar 0) (dFrz (dLst dNil)))) (dTst (dOp rEqv (dCall sp_law_draw (dCons (dVar 1) (dCons (dC (.int 8)) dNil))) (dC (.int 0)))))
  (dAsg (dFrz (dOp rAdd (dVar 3) (dFrz (dCB rLstC (dCons (dCall sp_law_great dNil) dNil))))) (gNm 3))
  dNext)
  (dSeq (dFor (iSq (dFrz (dOp rAdd (dFrz (dOp rAdd (dVar 3) (dFrz (dCB rLstC (dCons (dCall sp_law_rounds dNil) dNil))))) (dFrz (dLst (dCons (dCall sp_law_sides dNil) dNil)))))) (gNm 4)
  (dIfS (dNot (dTru (dCall sp_law_agrees (dCons (dVar 4) dNil))))
  (dRet (dC (.bl false)))
  dNext))
  (dSeq (dFor (iRg1 (dCons (dC (.int 4)) dNil)) (gNm 5)
  (dIfS (dNot (dTru (dCall sp_law_agrees (dCons (dCall sp_law_some_job (dCons (dVar 1) (dCons (dC (.int 60)) dNil))) dNil))))
  (dRet (dC (.bl false)))
  dNext))
  (dRet (dC (.bl true))))))))))
end K23

namespace K23
open PySem L2 Dl K17 K18 K24
local macro_rules | `(tactic| walk_at "ds") => `(tactic| repeat' with_reducible first
  | refine iNeg ?_ | refine lstP_i (by assumption) ?_ | refine lstP_i updG_same ?_ | refine dctP_i (by assumption) ?_ | refine dctP_i updG_same ?_ | refine isN_T ?_ | refine isN_F (by with_unfolding_all rfl) ?_ | refine iRev ?_ | refine revT ?_ | refine revL ?_ | refine iCallG ?_ | refine iSeq ?_ | refine iNext ?_ | refine iIfS ?_ | refine iRet ?_ | refine iRetN ?_ | refine iDrop ?_ | refine iAsg ?_ | refine iPar ?_ | refine iGNm ?_
  | refine iGTp (by with_unfolding_all rfl) ?_ | refine iGsCons ?_ | refine iGsNil ?_ | refine iGSb ?_ | refine iVar (by with_unfolding_all rfl) ?_ | refine iC ?_ | refine iNil ?_ | refine iCons ?_
  | refine iTup ?_ | refine lenOk (by with_unfolding_all rfl) ?_ | refine iFrz ?_ | refine iLst ?_ | refine frzEnd ?_ | refine frzT ?_ | refine frzL ?_ | refine slT ?_ | refine lstC_t ?_ | refine lstC_l ?_ | refine iOp ?_ | refine iTst ?_ | refine iTru ?_ | refine truB ?_
  | refine iAnd ?_ | refine iOr ?_ | refine iNot ?_ | refine iAndVK ?_ | refine andVT ?_ | refine andVF ?_ | refine andVDT (by decide) ?_ | refine andVDF (by decide) ?_ | refine ifDT (by decide) ?_ | refine ifDF (by decide) ?_ | refine iNotV ?_ | refine iIf ?_ | refine ifT ?_ | refine ifF ?_ | refine iCall ?_ | refine iCB ?_ | refine iMt ?_
  | refine iSl ?_ | refine iP ?_ | refine iNoP ?_ | refine iStar ?_ | refine iDGet ?_ | refine iIsi ?_ | refine iMatch ?_ | refine iFor ?_ | refine iISq ?_
  | refine rIx_i (by with_unfolding_all rfl) (by with_unfolding_all rfl) ?_ | refine rIx_i (by with_unfolding_all rfl) atI_0 ?_ | refine eq_strT ?_ | refine eq_strF (by with_unfolding_all rfl) ?_ | refine ne_strT ?_ | refine ne_strF (by with_unfolding_all rfl) ?_ | refine eq_ii ?_ | refine ne_ii ?_
  | refine caT ?_ | refine caF (by with_unfolding_all rfl) ?_ | refine caN ?_ | refine add_ii ?_ | refine int0 ?_ | refine len_t ?_ | refine len_l ?_ | refine tupC_t ?_ | refine tupC_l ?_
  | refine intC_i ?_ | refine intC_b ?_ | refine max2_ii ?_ | refine min2_ii ?_ | refine keyP_s ?_ | refine keyP_i ?_ | refine iIRg1 ?_ | refine iIRg2 ?_ | refine iIEnT ?_ | refine add_llb (by with_unfolding_all rfl) ?_ | refine add_ttb (by with_unfolding_all rfl) ?_
  | refine inn_T (by with_unfolding_all rfl) (by decide +kernel) (by decide +kernel) (by decide +kernel) ?_ | refine inn_F (by with_unfolding_all rfl) (by decide +kernel) (by decide +kernel) (by decide +kernel) ?_
  | refine isi_T (by with_unfolding_all rfl) (by decide +kernel) ?_ | refine isi_F (by with_unfolding_all rfl) (by decide +kernel) ?_ | refine iPsC ?_ | refine iPsN ?_ | refine ifNT ?_ | refine ifNF ?_
  | refine andVDT (by with_reducible_and_instances first | omega | (simp only [List.length_cons, List.length_nil]; omega)) ?_ | refine andVDF (by with_reducible_and_instances first | omega | (simp only [List.length_cons, List.length_nil]; omega)) ?_ | refine ifDT (by with_reducible_and_instances first | omega | (simp only [List.length_cons, List.length_nil]; omega)) ?_ | refine ifDF (by with_reducible_and_instances first | omega | (simp only [List.length_cons, List.length_nil]; omega)) ?_
  | refine ifNDT (by with_reducible_and_instances first | omega | (simp only [List.length_cons, List.length_nil]; omega)) ?_ | refine ifNDF (by with_reducible_and_instances first | omega | (simp only [List.length_cons, List.length_nil]; omega)) ?_
  | fail "stuck")
mutual
def beqW : Wk → Wk → Bool
  | .tick n, .tick m => decide (n = m)
  | .sme a b t, .sme a' b' t' => decide (a = a') && (decide (b = b') && (t == t'))
  | .lop a b t w, .lop a' b' t' w' => decide (a = a') && (decide (b = b') && ((t == t') && beqW w w'))
  | .eit ws, .eit vs => beqWs ws vs
  | .row ws, .row vs => beqWs ws vs
  | .bes a b, .bes a' b' => beqW a a' && beqW b b'
  | _, _ => false
def beqWs : List Wk → List Wk → Bool
  | [], [] => true
  | w :: ws, v :: vs => beqW w v && beqWs ws vs
  | _, _ => false
end
mutual
theorem beqW_eq : ∀ a b : Wk, beqW a b = true → a = b
  | .tick n, b, h => by cases b <;> simp [beqW] at h; subst h; rfl
  | .sme a b t, c, h => by cases c <;> simp [beqW] at h; obtain ⟨rfl, rfl, rfl⟩ := h; rfl
  | .lop a b t w, c, h => by
    cases c <;> simp [beqW] at h
    obtain ⟨rfl, rfl, rfl, e⟩ := h
    rw [beqW_eq w _ e]
  | .eit ws, c, h => by cases c <;> simp [beqW] at h; rw [beqWs_eq ws _ h]
  | .row ws, c, h => by cases c <;> simp [beqW] at h; rw [beqWs_eq ws _ h]
  | .bes a b, c, h => by cases c <;> simp [beqW] at h; rw [beqW_eq a _ h.1, beqW_eq b _ h.2]
theorem beqWs_eq : ∀ a b : List Wk, beqWs a b = true → a = b
  | [], b, h => by cases b <;> simp [beqWs] at h; rfl
  | w :: ws, b, h => by cases b <;> simp [beqWs] at h; rw [beqW_eq w _ h.1, beqWs_eq ws _ h.2]
end
mutual
theorem beqW_rfl : ∀ a : Wk, beqW a a = true
  | .tick n => by simp [beqW]
  | .sme a b t => by simp [beqW]
  | .lop a b t w => by simp [beqW, beqW_rfl w]
  | .eit ws => by simp [beqW, beqWs_rfl ws]
  | .row ws => by simp [beqW, beqWs_rfl ws]
  | .bes a b => by simp [beqW, beqW_rfl a, beqW_rfl b]
theorem beqWs_rfl : ∀ a : List Wk, beqWs a a = true
  | [] => by simp [beqWs]
  | w :: ws => by simp [beqWs, beqW_rfl w, beqWs_rfl ws]
end
instance : DecidableEq Wk := fun a b => if h : beqW a b = true then isTrue (beqW_eq a b h) else isFalse fun e => h (by rw [e]; exact beqW_rfl b)
abbrev Sta := Int × Wk
def stp (q : Sta) (s : Sg) : Sta := (q.1 + tk1 s, aft q.2 s)
inductive Rch (w : Wk) : Sta → Prop
  | beg : Rch w (0, tidyW w)
  | go {q : Sta} {s : Sg} : Rch w q → s ∈ nxW q.2 → Rch w (stp q s)
theorem Rch.bd {w : Wk} (hw : Bd w) {q : Sta} (h : Rch w q) : BdT q.2 := by
  induction h with
  | beg => exact hw.tidy
  | go _ hs ih => exact ih.aft hs
theorem Rch.path {w : Wk} {q : Sta} (h : Rch w q) : ∃ ss, Path (tidyW w) ss q.2 ∧ q.1 = cntS ss := by
  induction h with
  | beg => exact ⟨[], .nil _, rfl⟩
  | @go q s _ hs ih =>
    obtain ⟨ss, hp, e⟩ := ih
    refine ⟨ss ++ [s], hp.snoc hs, ?_⟩
    rw [cntS_app]
    show q.1 + tk1 s = _
    rw [e]
    have : cntS [s] = if tkS s = true then 1 else 0 := by unfold cntS; cases h : tkS s <;> simp [h]
    rw [this]
    unfold tk1
    split <;> simp
theorem Rch.num {w : Wk} (hw : Bd w) {q : Sta} (h : Rch w q) : 0 ≤ q.1 ∧ q.1 ≤ 1890 := by
  obtain ⟨ss, hp, e⟩ := h.path
  have h1 := cntS_le ss
  have h2 : ss.length ≤ 1890 := runs_le hw.tidy (q := (ss, q.2)) hp
  omega
structure Bf (w : Wk) (S W : List Sta) : Prop where
  nd : S.Nodup
  wn : W.Nodup
  sub : ∀ q ∈ W, q ∈ S
  rch : ∀ q ∈ S, Rch w q
  beg : (0, tidyW w) ∈ S
  cl : ∀ q ∈ S, q ∈ W ∨ ∀ s ∈ nxW q.2, stp q s ∈ S
structure Bi (w : Wk) (S W : List Sta) (q : Sta) (ss : List Sg) : Prop where
  nd : S.Nodup
  wn : W.Nodup
  sub : ∀ q ∈ W, q ∈ S
  rch : ∀ q ∈ S, Rch w q
  beg : (0, tidyW w) ∈ S
  mq : q ∈ S
  nq : q ∉ W
  sg : ∀ s ∈ ss, s ∈ nxW q.2
  own : ∀ s ∈ nxW q.2, s ∈ ss ∨ stp q s ∈ S
  cl : ∀ r ∈ S, r = q ∨ r ∈ W ∨ ∀ s ∈ nxW r.2, stp r s ∈ S
theorem Bf.start (w : Wk) : Bf w [(0, tidyW w)] [(0, tidyW w)] :=
  ⟨by simp, by simp, fun q h => h, fun q h => by rw [List.mem_singleton] at h; rw [h]; exact .beg, by simp, fun q h => .inl h⟩
theorem Bf.pop {w : Wk} {S W : List Sta} {q : Sta} (h : Bf w S (W ++ [q])) : Bi w S W q (nxW q.2) := by
  have hn := List.nodup_append.mp h.wn
  refine ⟨h.nd, hn.1, fun r hr => h.sub r (List.mem_append_left _ hr), h.rch, h.beg, h.sub q (by simp), fun hm => (hn.2.2 q hm q (by simp)) rfl, fun s hs => hs, fun s hs => .inl hs, fun r hr => ?_⟩
  rcases h.cl r hr with z | z
  · rcases List.mem_append.mp z with y | y
    · exact .inr (.inl y)
    · rw [List.mem_singleton] at y; exact .inl y
  · exact .inr (.inr z)
theorem Bi.old {w : Wk} {S W : List Sta} {q : Sta} {s : Sg} {ss : List Sg} (h : Bi w S W q (s :: ss)) (hs : stp q s ∈ S) : Bi w S W q ss :=
  ⟨h.nd, h.wn, h.sub, h.rch, h.beg, h.mq, h.nq, fun t ht => h.sg t (List.mem_cons_of_mem _ ht), fun t ht => by
    rcases h.own t ht with z | z
    · rcases List.mem_cons.mp z with y | y
      · rw [y]; exact .inr hs
      · exact .inl y
    · exact .inr z, h.cl⟩
theorem nodup_snoc {α : Type} {l : List α} {x : α} (h : l.Nodup) (hx : x ∉ l) : (l ++ [x]).Nodup :=
  List.nodup_append.mpr ⟨h, by simp, fun a ha b hb e => by rw [List.mem_singleton] at hb; rw [e, hb] at ha; exact hx ha⟩
theorem Bi.new {w : Wk} {S W : List Sta} {q : Sta} {s : Sg} {ss : List Sg} (h : Bi w S W q (s :: ss)) (hs : stp q s ∉ S) : Bi w (S ++ [stp q s]) (W ++ [stp q s]) q ss := by
  have hr : Rch w (stp q s) := .go (h.rch q h.mq) (h.sg s (List.mem_cons_self ..))
  refine ⟨nodup_snoc h.nd hs, nodup_snoc h.wn fun z => hs (h.sub _ z), fun r hr => ?_, fun r hm => ?_, List.mem_append_left _ h.beg, List.mem_append_left _ h.mq, fun z => ?_, fun t ht => h.sg t (List.mem_cons_of_mem _ ht), fun t ht => ?_, fun r hm => ?_⟩
  · rcases List.mem_append.mp hr with z | z
    · exact List.mem_append_left _ (h.sub r z)
    · exact List.mem_append_right _ z
  · rcases List.mem_append.mp hm with z | z
    · exact h.rch r z
    · rw [List.mem_singleton] at z; rw [z]; exact hr
  · rcases List.mem_append.mp z with y | y
    · exact h.nq y
    · rw [List.mem_singleton] at y; rw [← y] at hs; exact hs h.mq
  · rcases h.own t ht with z | z
    · rcases List.mem_cons.mp z with y | y
      · rw [y]; exact .inr (by simp)
      · exact .inl y
    · exact .inr (List.mem_append_left _ z)
  · rcases List.mem_append.mp hm with z | z
    · rcases h.cl r z with y | y | y
      · exact .inl y
      · exact .inr (.inl (List.mem_append_left _ y))
      · exact .inr (.inr fun t ht => List.mem_append_left _ (y t ht))
    · exact .inr (.inl (List.mem_append_right _ z))
theorem Bi.done {w : Wk} {S W : List Sta} {q : Sta} (h : Bi w S W q []) : Bf w S W := by
  refine ⟨h.nd, h.wn, h.sub, h.rch, h.beg, fun r hr => ?_⟩
  rcases h.cl r hr with z | z | z
  · refine .inr fun s hs => ?_
    rw [z] at hs ⊢
    rcases h.own s hs with y | y
    · cases y
    · exact y
  · exact .inl z
  · exact .inr z
structure AllS (w : Wk) (S : List Sta) : Prop where
  nd : S.Nodup
  mem : ∀ q, q ∈ S ↔ Rch w q
theorem Bf.all {w : Wk} {S : List Sta} (h : Bf w S []) : AllS w S := by
  refine ⟨h.nd, fun q => ⟨h.rch q, fun hq => ?_⟩⟩
  induction hq with
  | beg => exact h.beg
  | go _ hs ih =>
    rcases h.cl _ ih with z | z
    · cases z
    · exact z _ hs
theorem len_sub {α : Type} : ∀ {S T : List α}, S.Nodup → (∀ x ∈ S, x ∈ T) → S.length ≤ T.length
  | [], _, _, _ => Nat.zero_le _
  | x :: S, T, hn, h => by
    have hn' := List.nodup_cons.mp hn
    obtain ⟨A, B, rfl⟩ := List.append_of_mem (h x (List.mem_cons_self ..))
    have : S.length ≤ (A ++ B).length := len_sub hn'.2 fun y hy => by
      have := h y (List.mem_cons_of_mem _ hy)
      simp only [List.mem_append, List.mem_cons] at this ⊢
      rcases this with z | z | z
      · exact .inl z
      · rw [z] at hy; exact absurd hy hn'.1
      · exact .inr z
    simp only [List.length_append, List.length_cons] at this ⊢
    omega
def Few (n : Nat) (w : Wk) : Prop := ∀ S : List Sta, S.Nodup → (∀ q ∈ S, Rch w q) → S.length ≤ n
theorem AllS.few {w : Wk} {S : List Sta} (h : AllS w S) : Few S.length w := fun T nd hT => len_sub nd fun q hq => (h.mem q).mpr (hT q hq)
def addS (q : Sta) : List Sg → List Sta × List Sta → List Sta × List Sta
  | [], x => x
  | s :: ss, x => if stp q s ∈ x.1 then addS q ss x else addS q ss (x.1 ++ [stp q s], x.2 ++ [stp q s])
theorem addS_ok {w : Wk} {q : Sta} : ∀ {ss : List Sg} {S W : List Sta}, Bi w S W q ss → Bf w (addS q ss (S, W)).1 (addS q ss (S, W)).2
  | [], S, W, h => h.done
  | s :: ss, S, W, h => by
    unfold addS
    dsimp only
    split
    · rename_i e; exact addS_ok (h.old e)
    · rename_i e; exact addS_ok (h.new e)
def srch : Nat → List Sta → List Sta → List Sta × List Sta
  | 0, S, W => (S, W)
  | n + 1, S, W => match W.reverse with
    | [] => (S, [])
    | q :: R => srch n (addS q (nxW q.2) (S, R.reverse)).1 (addS q (nxW q.2) (S, R.reverse)).2
theorem srch_ok {w : Wk} : ∀ (n : Nat) {S W : List Sta}, Bf w S W → Bf w (srch n S W).1 (srch n S W).2
  | 0, S, W, h => h
  | n + 1, S, W, h => by
    unfold srch
    split
    · rename_i e
      have : W = [] := by simpa using e
      rw [this] at h
      exact h
    · rename_i q R e
      have e2 : W = R.reverse ++ [q] := by
        have := congrArg List.reverse e
        simpa using this
      rw [e2] at h
      exact srch_ok n (addS_ok h.pop)
def allB (n : Nat) (w : Wk) : List Sta := (srch n [(0, tidyW w)] [(0, tidyW w)]).1
theorem all_of {n : Nat} {w : Wk} (h : (srch n [(0, tidyW w)] [(0, tidyW w)]).2 = []) : AllS w (allB n w) := by
  have := srch_ok n (Bf.start w)
  rw [h] at this
  exact this.all
end K23

namespace K23
open PySem L2 Dl K17 K18 K24
local macro_rules | `(tactic| walk_at "ds") => `(tactic| repeat' with_reducible first
  | refine iNeg ?_ | refine lstP_i (by assumption) ?_ | refine lstP_i updG_same ?_ | refine dctP_i (by assumption) ?_ | refine dctP_i updG_same ?_ | refine isN_T ?_ | refine isN_F (by with_unfolding_all rfl) ?_ | refine iRev ?_ | refine revT ?_ | refine revL ?_ | refine iCallG ?_ | refine iSeq ?_ | refine iNext ?_ | refine iIfS ?_ | refine iRet ?_ | refine iRetN ?_ | refine iDrop ?_ | refine iAsg ?_ | refine iPar ?_ | refine iGNm ?_
  | refine iGTp (by with_unfolding_all rfl) ?_ | refine iGsCons ?_ | refine iGsNil ?_ | refine iGSb ?_ | refine iVar (by with_unfolding_all rfl) ?_ | refine iC ?_ | refine iNil ?_ | refine iCons ?_
  | refine iTup ?_ | refine lenOk (by with_unfolding_all rfl) ?_ | refine iFrz ?_ | refine iLst ?_ | refine frzEnd ?_ | refine frzT ?_ | refine frzL ?_ | refine slT ?_ | refine lstC_t ?_ | refine lstC_l ?_ | refine iOp ?_ | refine iTst ?_ | refine iTru ?_ | refine truB ?_
  | refine iAnd ?_ | refine iOr ?_ | refine iNot ?_ | refine iAndVK ?_ | refine andVT ?_ | refine andVF ?_ | refine andVDT (by decide) ?_ | refine andVDF (by decide) ?_ | refine ifDT (by decide) ?_ | refine ifDF (by decide) ?_ | refine iNotV ?_ | refine iIf ?_ | refine ifT ?_ | refine ifF ?_ | refine iCall ?_ | refine iCB ?_ | refine iMt ?_
  | refine iSl ?_ | refine iP ?_ | refine iNoP ?_ | refine iStar ?_ | refine iDGet ?_ | refine iIsi ?_ | refine iMatch ?_ | refine iFor ?_ | refine iISq ?_
  | refine rIx_i (by with_unfolding_all rfl) (by with_unfolding_all rfl) ?_ | refine rIx_i (by with_unfolding_all rfl) atI_0 ?_ | refine eq_strT ?_ | refine eq_strF (by with_unfolding_all rfl) ?_ | refine ne_strT ?_ | refine ne_strF (by with_unfolding_all rfl) ?_ | refine eq_ii ?_ | refine ne_ii ?_
  | refine caT ?_ | refine caF (by with_unfolding_all rfl) ?_ | refine caN ?_ | refine add_ii ?_ | refine int0 ?_ | refine len_t ?_ | refine len_l ?_ | refine tupC_t ?_ | refine tupC_l ?_
  | refine intC_i ?_ | refine intC_b ?_ | refine max2_ii ?_ | refine min2_ii ?_ | refine keyP_s ?_ | refine keyP_i ?_ | refine iIRg1 ?_ | refine iIRg2 ?_ | refine iIEnT ?_ | refine add_llb (by with_unfolding_all rfl) ?_ | refine add_ttb (by with_unfolding_all rfl) ?_
  | refine inn_T (by with_unfolding_all rfl) (by decide +kernel) (by decide +kernel) (by decide +kernel) ?_ | refine inn_F (by with_unfolding_all rfl) (by decide +kernel) (by decide +kernel) (by decide +kernel) ?_
  | refine isi_T (by with_unfolding_all rfl) (by decide +kernel) ?_ | refine isi_F (by with_unfolding_all rfl) (by decide +kernel) ?_ | refine iPsC ?_ | refine iPsN ?_ | refine ifNT ?_ | refine ifNF ?_
  | refine andVDT (by with_reducible_and_instances first | omega | (simp only [List.length_cons, List.length_nil]; omega)) ?_ | refine andVDF (by with_reducible_and_instances first | omega | (simp only [List.length_cons, List.length_nil]; omega)) ?_ | refine ifDT (by with_reducible_and_instances first | omega | (simp only [List.length_cons, List.length_nil]; omega)) ?_ | refine ifDF (by with_reducible_and_instances first | omega | (simp only [List.length_cons, List.length_nil]; omega)) ?_
  | refine ifNDT (by with_reducible_and_instances first | omega | (simp only [List.length_cons, List.length_nil]; omega)) ?_ | refine ifNDF (by with_reducible_and_instances first | omega | (simp only [List.length_cons, List.length_nil]; omega)) ?_
  | fail "stuck")
theorem ws_ne {a b : Str} (h : a ≠ b) (x y : List PyData) : cmpbs (.str a :: x) (.str b :: y) = true := by
  rw [cmpbs, show cmpb (.str a) (.str b) = true from rfl, show PyData.eqv (.str a) (.str b) = false from by simp [PyData.eqv, h]]
  rfl
theorem ws_eq (a : Str) (x y : List PyData) (h : cmpbs x y = true) : cmpbs (.str a :: x) (.str a :: y) = true := by
  rw [cmpbs, show cmpb (.str a) (.str a) = true from rfl, h]; simp
theorem ci {i j : Int} {x y : List PyData} (h : cmpbs x y = true) : cmpbs (.int i :: x) (.int j :: y) = true := by
  rw [cmpbs, show cmpb (.int i) (.int j) = true from rfl, h]; simp
theorem cbb {i j : Bool} {x y : List PyData} (h : cmpbs x y = true) : cmpbs (.bool i :: x) (.bool j :: y) = true := by
  rw [cmpbs, show cmpb (.bool i) (.bool j) = true from rfl, h]; simp
theorem ccc {a b : PyData} {x y : List PyData} (h0 : cmpb a b = true) (h : cmpbs x y = true) : cmpbs (a :: x) (b :: y) = true := by
  rw [cmpbs, h0, h]; simp
theorem cnil : cmpbs [] [] = true := by rw [cmpbs] <;> simp
mutual
theorem cmp_w : ∀ a b : Wk, cmpb (pyD (toD a)) (pyD (toD b)) = true
  | .tick n, b => by
    cases b <;> simp only [toD, pyD, pyDs, cmpb]
    · exact ws_eq _ _ _ (ci cnil)
    all_goals exact ws_ne (by decide +kernel) _ _
  | .sme a c t, b => by
    cases b <;> simp only [toD, pyD, pyDs, cmpb]
    · exact ws_ne (by decide +kernel) _ _
    · exact ws_eq _ _ _ (ci (ci (cbb cnil)))
    all_goals exact ws_ne (by decide +kernel) _ _
  | .lop a c t w, b => by
    cases b with
    | lop a' c' t' w' =>
      have := cmp_w w w'
      simp only [toD, pyD, pyDs, cmpb]
      exact ws_eq _ _ _ (ci (ci (cbb (ccc this cnil))))
    | _ => simp only [toD, pyD, pyDs, cmpb]; exact ws_ne (by decide +kernel) _ _
  | .eit ws, b => by
    cases b with
    | eit vs =>
      have := cmp_ws ws vs
      simp only [toD, pyD, pyDs, cmpb]
      exact ws_eq _ _ _ (ccc (by rw [cmpb]; exact this) cnil)
    | _ => simp only [toD, pyD, pyDs, cmpb]; exact ws_ne (by decide +kernel) _ _
  | .row ws, b => by
    cases b with
    | row vs =>
      have := cmp_ws ws vs
      simp only [toD, pyD, pyDs, cmpb]
      exact ws_eq _ _ _ (ccc (by rw [cmpb]; exact this) cnil)
    | _ => simp only [toD, pyD, pyDs, cmpb]; exact ws_ne (by decide +kernel) _ _
  | .bes a c, b => by
    cases b with
    | bes a' c' =>
      have h1 := cmp_w a a'
      have h2 := cmp_w c c'
      simp only [toD, pyD, pyDs, cmpb]
      exact ws_eq _ _ _ (ccc h1 (ccc h2 cnil))
    | _ => simp only [toD, pyD, pyDs, cmpb]; exact ws_ne (by decide +kernel) _ _
theorem cmp_ws : ∀ a b : List Wk, cmpbs (pyDs (toDs a)) (pyDs (toDs b)) = true
  | [], b => by cases b <;> simp [toDs, pyDs, cmpbs]
  | w :: ws, [] => by simp [toDs, pyDs, cmpbs]
  | w :: ws, v :: vs => by
    have h1 := cmp_w w v
    have h2 := cmp_ws ws vs
    simp only [toDs, pyDs]
    exact ccc h1 h2
end
theorem cmp_st (q r : Sta) : cmpb (pyD (itD q)) (pyD (itD r)) = true := by
  simp only [itD, pyD, pyDs, cmpb]
  exact ci (ccc (cmp_w q.2 r.2) cnil)
mutual
theorem cmpb_comm : ∀ x y : PyData, cmpb x y = true → cmpb y x = true
  | .bool _, y, h => by cases y <;> simp [cmpb] at h ⊢
  | .int _, y, h => by cases y <;> simp [cmpb] at h ⊢
  | .str _, y, h => by cases y <;> simp [cmpb] at h ⊢
  | .tuple xs, y, h => by
    cases y with
    | tuple ys => rw [cmpb] at h ⊢; exact cmpbs_comm xs ys h
    | _ => simp [cmpb] at h
  | .none, y, h => by cases y <;> simp [cmpb] at h
  | .list _, y, h => by cases y <;> simp [cmpb] at h
  | .dict _, y, h => by cases y <;> simp [cmpb] at h
theorem cmpbs_comm : ∀ xs ys : List PyData, cmpbs xs ys = true → cmpbs ys xs = true
  | [], [], _ => by simp [cmpbs]
  | [], _ :: _, _ => by simp [cmpbs]
  | _ :: _, [], _ => by simp [cmpbs]
  | x :: xs, y :: ys, h => by
    obtain ⟨h1, h2⟩ := cmpbs_cons h
    have k1 := cmpb_comm x y h1
    rw [cmpbs, k1, PySem.W.eqv_comm y x]
    cases e : PyData.eqv x y with
    | false => rfl
    | true => rw [cmpbs_comm xs ys (h2 e)]; rfl
end
theorem tot {a b : List (Int ⊕ List Nat)} (h1 : tlt a b = false) (h2 : tlt b a = false) : a = b := PyProof.Rows.lex_total (O := PyProof.Rows.itemOrd) a b h1 h2
theorem irr (a : List (Int ⊕ List Nat)) : tlt a a = false := PyProof.Rows.lex_irrefl (O := PyProof.Rows.itemOrd) a
mutual
theorem toks_ne : ∀ x y : PyData, cmpb x y = true → PyData.eqv x y = false → PySem.W.keyToks x ≠ PySem.W.keyToks y
  | .bool a, y, h, e => by
    cases y with
    | bool b => cases a <;> cases b <;> simp [PyData.eqv, PySem.W.keyToks] at e ⊢
    | _ => simp [cmpb] at h
  | .int a, y, h, e => by
    cases y with
    | int b => simpa [PyData.eqv, PySem.W.keyToks] using e
    | _ => simp [cmpb] at h
  | .str a, y, h, e => by
    cases y with
    | str b =>
      have : a ≠ b := by simpa [PyData.eqv] using e
      intro z
      simp only [PySem.W.keyToks] at z
      exact this (PySem.W.str_of_cps (by simpa using z))
    | _ => simp [cmpb] at h
  | .tuple xs, y, h, e => by
    cases y with
    | tuple ys => rw [cmpb] at h; rw [PyData.eqv] at e; simp only [PySem.W.keyToks]; exact tokss_ne xs ys h e
    | _ => simp [cmpb] at h
  | .none, y, h, _ => by cases y <;> simp [cmpb] at h
  | .list _, y, h, _ => by cases y <;> simp [cmpb] at h
  | .dict _, y, h, _ => by cases y <;> simp [cmpb] at h
theorem tokss_ne : ∀ xs ys : List PyData, cmpbs xs ys = true → PyData.eqvAll xs ys = false → PySem.W.keyToksAll xs ≠ PySem.W.keyToksAll ys
  | [], [], _, e => by simp [PyData.eqvAll] at e
  | [], y :: ys, _, _ => by rw [PySem.W.toks_all_cons]; simp [PySem.W.keyToksAll]
  | x :: xs, [], _, _ => by rw [PySem.W.toks_all_cons]; simp [PySem.W.keyToksAll]
  | x :: xs, y :: ys, h, e => by
    obtain ⟨h1, h2⟩ := cmpbs_cons h
    rw [PySem.W.eqv_all_cons] at e
    rw [PySem.W.toks_all_cons, PySem.W.toks_all_cons]
    intro z
    injection z with _ z
    cases ex : PyData.eqv x y with
    | true =>
      rw [ex, Bool.true_and] at e
      rw [(toks_c x y h1).1 ex] at z
      exact tokss_ne xs ys (h2 ex) e (List.append_cancel_left z)
    | false =>
      have k1 := (toks_c x y h1).2 ex (PySem.W.keyToksAll xs) (PySem.W.keyToksAll ys)
      have ey : PyData.eqv y x = false := by rw [PySem.W.eqv_comm]; exact ex
      have k2 := (toks_c y x (cmpb_comm x y h1)).2 ey (PySem.W.keyToksAll ys) (PySem.W.keyToksAll xs)
      rw [z, irr] at k1
      rw [z, irr] at k2
      exact toks_ne x y h1 ex (tot k1.symm k2.symm)
end
theorem eq_word {a b : Str} {x y : List PyData} (h : PyData.eqv (.tuple (.str a :: x)) (.tuple (.str b :: y)) = true) : a = b ∧ PyData.eqvAll x y = true := by
  rw [PyData.eqv, PySem.W.eqv_all_cons, Bool.and_eq_true] at h
  exact ⟨by simpa [PyData.eqv] using h.1, h.2⟩
theorem eq_int {a b : Int} {x y : List PyData} (h : PyData.eqvAll (.int a :: x) (.int b :: y) = true) : a = b ∧ PyData.eqvAll x y = true := by
  rw [PySem.W.eqv_all_cons, Bool.and_eq_true] at h
  exact ⟨by simpa [PyData.eqv] using h.1, h.2⟩
theorem eq_bool {a b : Bool} {x y : List PyData} (h : PyData.eqvAll (.bool a :: x) (.bool b :: y) = true) : a = b ∧ PyData.eqvAll x y = true := by
  rw [PySem.W.eqv_all_cons, Bool.and_eq_true] at h
  exact ⟨by simpa [PyData.eqv] using h.1, h.2⟩
theorem eq_one {a b : PyData} {x y : List PyData} (h : PyData.eqvAll (a :: x) (b :: y) = true) : PyData.eqv a b = true ∧ PyData.eqvAll x y = true := by
  rw [PySem.W.eqv_all_cons, Bool.and_eq_true] at h
  exact h
theorem eq_tup {x y : List PyData} (h : PyData.eqv (.tuple x) (.tuple y) = true) : PyData.eqvAll x y = true := by rw [PyData.eqv] at h; exact h
mutual
theorem eqw_inj : ∀ a b : Wk, PyData.eqv (pyD (toD a)) (pyD (toD b)) = true → a = b
  | .tick n, b, h => by
    cases b <;> simp only [toD, pyD, pyDs] at h <;> obtain ⟨e, h⟩ := eq_word h <;> first | exact absurd e (by decide +kernel) | skip
    rw [(eq_int h).1]
  | .sme a c t, b, h => by
    cases b <;> simp only [toD, pyD, pyDs] at h <;> obtain ⟨e, h⟩ := eq_word h <;> first | exact absurd e (by decide +kernel) | skip
    obtain ⟨e1, h⟩ := eq_int h
    obtain ⟨e2, h⟩ := eq_int h
    rw [e1, e2, (eq_bool h).1]
  | .lop a c t w, b, h => by
    cases b <;> simp only [toD, pyD, pyDs] at h <;> obtain ⟨e, h⟩ := eq_word h <;> first | exact absurd e (by decide +kernel) | skip
    obtain ⟨e1, h⟩ := eq_int h
    obtain ⟨e2, h⟩ := eq_int h
    obtain ⟨e3, h⟩ := eq_bool h
    rw [e1, e2, e3, eqw_inj w _ (eq_one h).1]
  | .eit ws, b, h => by
    cases b <;> simp only [toD, pyD, pyDs] at h <;> obtain ⟨e, h⟩ := eq_word h <;> first | exact absurd e (by decide +kernel) | skip
    rw [eqws_inj ws _ (eq_tup (eq_one h).1)]
  | .row ws, b, h => by
    cases b <;> simp only [toD, pyD, pyDs] at h <;> obtain ⟨e, h⟩ := eq_word h <;> first | exact absurd e (by decide +kernel) | skip
    rw [eqws_inj ws _ (eq_tup (eq_one h).1)]
  | .bes a c, b, h => by
    cases b <;> simp only [toD, pyD, pyDs] at h <;> obtain ⟨e, h⟩ := eq_word h <;> first | exact absurd e (by decide +kernel) | skip
    obtain ⟨h1, h⟩ := eq_one h
    rw [eqw_inj a _ h1, eqw_inj c _ (eq_one h).1]
theorem eqws_inj : ∀ a b : List Wk, PyData.eqvAll (pyDs (toDs a)) (pyDs (toDs b)) = true → a = b
  | [], [], h => rfl
  | [], _ :: _, h => by simp [toDs, pyDs, PyData.eqvAll] at h
  | w :: ws, [], h => by simp [toDs, pyDs, PyData.eqvAll] at h
  | w :: ws, v :: vs, h => by
    simp only [toDs, pyDs] at h
    obtain ⟨h1, h⟩ := eq_one h
    rw [eqw_inj w v h1, eqws_inj ws vs h]
end
theorem st_anti {q r : Sta} (h1 : dlt (itD q) (itD r) = false) (h2 : dlt (itD r) (itD q) = false) : q = r := by
  have e := tot h1 h2
  cases ev : PyData.eqv (pyD (itD q)) (pyD (itD r)) with
  | false => exact absurd e (toks_ne _ _ (cmp_st q r) ev)
  | true =>
    simp only [itD, pyD, pyDs] at ev
    rw [PyData.eqv, PySem.W.eqv_all_cons, PySem.W.eqv_all_cons, Bool.and_eq_true, Bool.and_eq_true] at ev
    have h3 := eqw_inj _ _ ev.2.1
    have h4 : q.1 = r.1 := by simpa [PyData.eqv] using ev.1
    exact Prod.ext h4 h3
def StL (w : Wk) (es : List D) : Prop := Asc es ∧ ∃ S, AllS w S ∧ List.Perm es (S.map itD)
theorem asc_uni : ∀ {a b : List D}, Asc a → Asc b → List.Perm a b → (∀ x ∈ a, ∃ q : Sta, x = itD q) → a = b
  | [], b, _, _, p, _ => (List.Perm.eq_nil p.symm).symm
  | x :: a, [], _, _, p, _ => absurd p.length_eq (by simp)
  | x :: a, y :: b, ha, hb, p, hx => by
    have ha' := List.pairwise_cons.mp ha
    have hb' := List.pairwise_cons.mp hb
    have hxy : x = y := by
      obtain ⟨q, rfl⟩ := hx x (List.mem_cons_self ..)
      obtain ⟨r, hr⟩ := hx y (p.mem_iff.mpr (List.mem_cons_self ..))
      subst hr
      have m1 := p.mem_iff.mp (List.mem_cons_self (a := itD q) (l := a))
      have m2 := p.mem_iff.mpr (List.mem_cons_self (a := itD r) (l := b))
      rcases List.mem_cons.mp m1 with z | z
      · exact z
      · rcases List.mem_cons.mp m2 with y | y
        · exact y.symm
        · rw [st_anti (hb'.1 _ z) (ha'.1 _ y)]
    subst hxy
    rw [asc_uni ha'.2 hb'.2 p.cons_inv fun z hz => hx z (List.mem_cons_of_mem _ hz)]
theorem it_inj {q r : Sta} (h : itD q = itD r) : q = r := by
  refine st_anti ?_ ?_
  · rw [h]; exact irr _
  · rw [h]; exact irr _
theorem AllS.perm {w : Wk} {S T : List Sta} (h : AllS w S) (k : AllS w T) : List.Perm S T :=
  (List.perm_ext_iff_of_nodup h.nd k.nd).mpr fun q => (h.mem q).trans (k.mem q).symm
theorem StL.uni {w : Wk} {a b : List D} (h : StL w a) (k : StL w b) : a = b := by
  obtain ⟨h1, S, hS, p1⟩ := h
  obtain ⟨k1, T, kT, p2⟩ := k
  refine asc_uni h1 k1 (p1.trans (((hS.perm kT).map itD).trans p2.symm)) fun x hx => ?_
  obtain ⟨q, _, e⟩ := List.mem_map.mp (p1.mem_iff.mp hx)
  exact ⟨q, e.symm⟩
end K23

namespace K23
open PySem L2 Dl K17 K18 K24
local macro_rules | `(tactic| walk_at "ds") => `(tactic| repeat' with_reducible first
  | refine iNeg ?_ | refine lstP_i (by assumption) ?_ | refine lstP_i updG_same ?_ | refine dctP_i (by assumption) ?_ | refine dctP_i updG_same ?_ | refine isN_T ?_ | refine isN_F (by with_unfolding_all rfl) ?_ | refine iRev ?_ | refine revT ?_ | refine revL ?_ | refine iCallG ?_ | refine iSeq ?_ | refine iNext ?_ | refine iIfS ?_ | refine iRet ?_ | refine iRetN ?_ | refine iDrop ?_ | refine iAsg ?_ | refine iPar ?_ | refine iGNm ?_
  | refine iGTp (by with_unfolding_all rfl) ?_ | refine iGsCons ?_ | refine iGsNil ?_ | refine iGSb ?_ | refine iVar (by with_unfolding_all rfl) ?_ | refine iC ?_ | refine iNil ?_ | refine iCons ?_
  | refine iTup ?_ | refine lenOk (by with_unfolding_all rfl) ?_ | refine iFrz ?_ | refine iLst ?_ | refine frzEnd ?_ | refine frzT ?_ | refine frzL ?_ | refine slT ?_ | refine lstC_t ?_ | refine lstC_l ?_ | refine iOp ?_ | refine iTst ?_ | refine iTru ?_ | refine truB ?_
  | refine iAnd ?_ | refine iOr ?_ | refine iNot ?_ | refine iAndVK ?_ | refine andVT ?_ | refine andVF ?_ | refine andVDT (by decide) ?_ | refine andVDF (by decide) ?_ | refine ifDT (by decide) ?_ | refine ifDF (by decide) ?_ | refine iNotV ?_ | refine iIf ?_ | refine ifT ?_ | refine ifF ?_ | refine iCall ?_ | refine iCB ?_ | refine iMt ?_
  | refine iSl ?_ | refine iP ?_ | refine iNoP ?_ | refine iStar ?_ | refine iDGet ?_ | refine iIsi ?_ | refine iMatch ?_ | refine iFor ?_ | refine iISq ?_
  | refine rIx_i (by with_unfolding_all rfl) (by with_unfolding_all rfl) ?_ | refine rIx_i (by with_unfolding_all rfl) atI_0 ?_ | refine eq_strT ?_ | refine eq_strF (by with_unfolding_all rfl) ?_ | refine ne_strT ?_ | refine ne_strF (by with_unfolding_all rfl) ?_ | refine eq_ii ?_ | refine ne_ii ?_
  | refine caT ?_ | refine caF (by with_unfolding_all rfl) ?_ | refine caN ?_ | refine add_ii ?_ | refine int0 ?_ | refine len_t ?_ | refine len_l ?_ | refine tupC_t ?_ | refine tupC_l ?_
  | refine intC_i ?_ | refine intC_b ?_ | refine max2_ii ?_ | refine min2_ii ?_ | refine keyP_s ?_ | refine keyP_i ?_ | refine iIRg1 ?_ | refine iIRg2 ?_ | refine iIEnT ?_ | refine add_llb (by with_unfolding_all rfl) ?_ | refine add_ttb (by with_unfolding_all rfl) ?_
  | refine inn_T (by with_unfolding_all rfl) (by decide +kernel) (by decide +kernel) (by decide +kernel) ?_ | refine inn_F (by with_unfolding_all rfl) (by decide +kernel) (by decide +kernel) (by decide +kernel) ?_
  | refine isi_T (by with_unfolding_all rfl) (by decide +kernel) ?_ | refine isi_F (by with_unfolding_all rfl) (by decide +kernel) ?_ | refine iPsC ?_ | refine iPsN ?_ | refine ifNT ?_ | refine ifNF ?_
  | refine andVDT (by with_reducible_and_instances first | omega | (simp only [List.length_cons, List.length_nil]; omega)) ?_ | refine andVDF (by with_reducible_and_instances first | omega | (simp only [List.length_cons, List.length_nil]; omega)) ?_ | refine ifDT (by with_reducible_and_instances first | omega | (simp only [List.length_cons, List.length_nil]; omega)) ?_ | refine ifDF (by with_reducible_and_instances first | omega | (simp only [List.length_cons, List.length_nil]; omega)) ?_
  | refine ifNDT (by with_reducible_and_instances first | omega | (simp only [List.length_cons, List.length_nil]; omega)) ?_ | refine ifNDF (by with_reducible_and_instances first | omega | (simp only [List.length_cons, List.length_nil]; omega)) ?_
  | fail "stuck")
def ln (d : D) : Nat := (shL d).length
theorem len_ln (d : D) : (shD d).length = ln d := by
  unfold ln shL
  show (shD d).cps.size = _
  simp
def lns : List D → Nat
  | [] => 0
  | d :: ds => ln d + 2 + lns ds
theorem ln_rT (cl : Nat) : ∀ ds : List D, (rT cl ds).length = 1 + lns ds
  | [] => rfl
  | d :: ds => by
    have := ln_rT cl ds
    simp only [rT, List.length_cons, List.length_append, lns, ln]
    omega
theorem ln_tup (ds : List D) : ln (.tup ds) ≤ 3 + lns ds := by
  unfold ln
  rw [shL_tup]
  match ds with
  | [] => simp [lns]
  | [d] => simp only [List.length_cons, List.length_append, List.length_nil, lns, ln]; omega
  | d :: e :: r =>
    have := ln_rT 41 (e :: r)
    simp only [List.length_cons, List.length_append, this]
    simp only [lns, ln]
    omega
theorem ln_lst (ds : List D) : ln (.lst ds) ≤ 3 + lns ds := by
  unfold ln
  rw [shL_lst]
  match ds with
  | [] => simp [lns]
  | d :: r =>
    have := ln_rT 93 r
    simp only [List.length_cons, List.length_append, this]
    simp only [lns, ln]
    omega
theorem lns_le {c : Nat} : ∀ {ds : List D}, (∀ d ∈ ds, ln d ≤ c) → lns ds ≤ ds.length * (c + 2)
  | [], _ => by simp [lns]
  | d :: ds, h => by
    have h1 := h d (List.mem_cons_self ..)
    have h2 := lns_le (ds := ds) fun e he => h e (List.mem_cons_of_mem _ he)
    simp only [lns, List.length_cons, Nat.succ_mul]
    omega
theorem ln_bl (b : Bool) : ln (.bl b) ≤ 5 := by unfold ln; rw [shL_bl]; cases b <;> decide
theorem ln_int {i : Int} (h : smD (.int i) = true) : ln (.int i) ≤ 13 := by
  have k := sm_short (.int i) h
  simp only [pyD, PyData.intsShort, decide_eq_true_eq] at k
  rw [← len_ln]
  exact k
theorem smi {i : Int} (h0 : 0 ≤ i) (h1 : i ≤ 1890) : smD (.int i) = true := by
  simp only [smD, decide_eq_true_eq]
  omega
theorem ln_w1 : ln (.str "tick") = 6 ∧ ln (.str "some") = 6 ∧ ln (.str "loop") = 6 ∧ ln (.str "either") = 8 ∧ ln (.str "row") = 5 ∧ ln (.str "beside") = 8 := by
  refine ⟨?_, ?_, ?_, ?_, ?_, ?_⟩ <;> (unfold ln; rw [shL_str (by decide +kernel)]; decide +kernel)
mutual
theorem ln_w : ∀ w : Wk, okW 999 w → ln (toD w) + 2 ≤ 25 * zW w
  | .tick n, h => by
    rw [okW] at h
    have h1 := ln_tup [.str "tick", .int n]
    have h2 := ln_int (smi (i := n) (by omega) (by omega))
    have h3 := ln_w1
    rw [toD, zW]
    simp only [lns] at h1
    omega
  | .sme a b t, h => by
    rw [okW] at h
    have h1 := ln_tup [.str "some", .int a, .int b, .bl t]
    have h2 := ln_int (smi (i := a) (by omega) (by omega))
    have h3 := ln_int (smi (i := b) (by omega) (by omega))
    have h4 := ln_bl t
    have h5 := ln_w1
    rw [toD, zW]
    simp only [lns] at h1
    omega
  | .lop a b t w, h => by
    rw [okW] at h
    have ih := ln_w w h.2.2.2
    have h1 := ln_tup [.str "loop", .int a, .int b, .bl t, toD w]
    have h2 := ln_int (smi (i := a) (by omega) (by omega))
    have h3 := ln_int (smi (i := b) (by omega) (by omega))
    have h4 := ln_bl t
    have h5 := ln_w1
    have hm : 1 * (zW w + 1) ≤ (b.toNat + 1) * (zW w + 1) := Nat.mul_le_mul (by omega) (by omega)
    rw [toD, zW]
    simp only [lns] at h1
    omega
  | .eit ws, h => by
    rw [okW] at h
    have ih := ln_ws ws h.2
    have h1 := ln_tup [.str "either", .tup (toDs ws)]
    have h2 := ln_tup (toDs ws)
    have h5 := ln_w1
    rw [toD, zW]
    simp only [lns] at h1
    omega
  | .row ws, h => by
    rw [okW] at h
    have ih := ln_ws ws h
    have h1 := ln_tup [.str "row", .tup (toDs ws)]
    have h2 := ln_tup (toDs ws)
    have h5 := ln_w1
    rw [toD, zW]
    simp only [lns] at h1
    omega
  | .bes a b, h => by
    rw [okW] at h
    have i1 := ln_w a h.1
    have i2 := ln_w b h.2
    have h1 := ln_tup [.str "beside", toD a, toD b]
    have h5 := ln_w1
    rw [toD, zW]
    simp only [lns] at h1
    omega
theorem ln_ws : ∀ ws : List Wk, okWs 999 ws → lns (toDs ws) ≤ 25 * zWs ws
  | [], _ => by simp [toDs, lns]
  | w :: ws, h => by
    rw [okWs] at h
    have i1 := ln_w w h.1
    have i2 := ln_ws ws h.2
    simp only [toDs, lns, zWs]
    omega
end
mutual
theorem cl_w : ∀ w : Wk, cleanD (toD w) = true
  | .tick n => by have : cleanS "tick" = true := by decide +kernel
                  simp [toD, cleanD, cleanDs, this]
  | .sme a b t => by have : cleanS "some" = true := by decide +kernel
                     simp [toD, cleanD, cleanDs, this]
  | .lop a b t w => by have : cleanS "loop" = true := by decide +kernel
                       have h := cl_w w
                       simp [toD, cleanD, cleanDs, this, h]
  | .eit ws => by have : cleanS "either" = true := by decide +kernel
                  have h := cl_ws ws
                  simp [toD, cleanD, cleanDs, this, h]
  | .row ws => by have : cleanS "row" = true := by decide +kernel
                  have h := cl_ws ws
                  simp [toD, cleanD, cleanDs, this, h]
  | .bes a b => by have : cleanS "beside" = true := by decide +kernel
                   have h1 := cl_w a
                   have h2 := cl_w b
                   simp [toD, cleanD, cleanDs, this, h1, h2]
theorem cl_ws : ∀ ws : List Wk, cleanDs (toDs ws) = true
  | [] => by simp [toDs, cleanDs]
  | w :: ws => by
    have h1 := cl_w w
    have h2 := cl_ws ws
    simp [toDs, cleanDs, h1, h2]
end
theorem cl_st (q : Sta) : cleanD (itD q) = true := by
  have := cl_w q.2
  simp [itD, cleanD, cleanDs, this]
theorem sh_st {q r : Sta} (h : shD (itD q) = shD (itD r)) : q = r := it_inj (shD_inj (cl_st q) (cl_st r) h)
structure StOk (q : Sta) : Prop where
  b : BdT q.2
  n0 : 0 ≤ q.1
  n1 : q.1 ≤ 1890
theorem Rch.ok {w : Wk} (hw : Bd w) {q : Sta} (h : Rch w q) : StOk q := ⟨h.bd hw, (h.num hw).1, (h.num hw).2⟩
theorem StOk.sm {q : Sta} (h : StOk q) : smD (itD q) = true := by
  have h1 := smi h.n0 h.n1
  have h2 := h.b.1.sm
  simp only [itD, smD, smDs, Bool.and_true, Bool.and_eq_true] at h1 ⊢
  exact ⟨h1, h2⟩
theorem StOk.dep {q : Sta} (h : StOk q) : depD (itD q) ≤ 22 := by
  have := h.b.1.dep
  simp only [itD, depD, depDs]; omega
theorem StOk.len {q : Sta} (h : StOk q) : ln (itD q) ≤ 6768 := by
  have h1 := ln_tup [.int q.1, toD q.2]
  have h2 := ln_int (smi h.n0 h.n1)
  have h3 := ln_w q.2 h.b.1.o
  have h4 := h.b.1.z
  simp only [lns] at h1
  unfold itD
  omega
theorem StOk.shw {q : Sta} (h : StOk q) : Shw (itD q) := by
  refine ⟨rfl, okD_of h.sm (by have := h.dep; omega), sm_few _ h.sm, ?_⟩
  rw [len_ln, sizeL]
  have := h.len
  omega
theorem sts_sm {S : List Sta} (h : ∀ q ∈ S, StOk q) : smDs (S.map itD) = true ∧ depDs (S.map itD) ≤ 22 := by
  refine ⟨?_, ?_⟩
  · rw [smDs_iff]
    intro d hd
    obtain ⟨q, hq, rfl⟩ := List.mem_map.mp hd
    exact (h q hq).sm
  · exact depDs_le fun d hd => by obtain ⟨q, hq, rfl⟩ := List.mem_map.mp hd; exact (h q hq).dep
end K23

namespace K23
open PySem L2 Dl K17 K18 K24
local macro_rules | `(tactic| walk_at "ds") => `(tactic| repeat' with_reducible first
  | refine iNeg ?_ | refine lstP_i (by assumption) ?_ | refine lstP_i updG_same ?_ | refine dctP_i (by assumption) ?_ | refine dctP_i updG_same ?_ | refine isN_T ?_ | refine isN_F (by with_unfolding_all rfl) ?_ | refine iRev ?_ | refine revT ?_ | refine revL ?_ | refine iCallG ?_ | refine iSeq ?_ | refine iNext ?_ | refine iIfS ?_ | refine iRet ?_ | refine iRetN ?_ | refine iDrop ?_ | refine iAsg ?_ | refine iPar ?_ | refine iGNm ?_
  | refine iGTp (by with_unfolding_all rfl) ?_ | refine iGsCons ?_ | refine iGsNil ?_ | refine iGSb ?_ | refine iVar (by with_unfolding_all rfl) ?_ | refine iC ?_ | refine iNil ?_ | refine iCons ?_
  | refine iTup ?_ | refine lenOk (by with_unfolding_all rfl) ?_ | refine iFrz ?_ | refine iLst ?_ | refine frzEnd ?_ | refine frzT ?_ | refine frzL ?_ | refine slT ?_ | refine lstC_t ?_ | refine lstC_l ?_ | refine iOp ?_ | refine iTst ?_ | refine iTru ?_ | refine truB ?_
  | refine iAnd ?_ | refine iOr ?_ | refine iNot ?_ | refine iAndVK ?_ | refine andVT ?_ | refine andVF ?_ | refine andVDT (by decide) ?_ | refine andVDF (by decide) ?_ | refine ifDT (by decide) ?_ | refine ifDF (by decide) ?_ | refine iNotV ?_ | refine iIf ?_ | refine ifT ?_ | refine ifF ?_ | refine iCall ?_ | refine iCB ?_ | refine iMt ?_
  | refine iSl ?_ | refine iP ?_ | refine iNoP ?_ | refine iStar ?_ | refine iDGet ?_ | refine iIsi ?_ | refine iMatch ?_ | refine iFor ?_ | refine iISq ?_
  | refine rIx_i (by with_unfolding_all rfl) (by with_unfolding_all rfl) ?_ | refine rIx_i (by with_unfolding_all rfl) atI_0 ?_ | refine eq_strT ?_ | refine eq_strF (by with_unfolding_all rfl) ?_ | refine ne_strT ?_ | refine ne_strF (by with_unfolding_all rfl) ?_ | refine eq_ii ?_ | refine ne_ii ?_
  | refine caT ?_ | refine caF (by with_unfolding_all rfl) ?_ | refine caN ?_ | refine add_ii ?_ | refine int0 ?_ | refine len_t ?_ | refine len_l ?_ | refine tupC_t ?_ | refine tupC_l ?_
  | refine intC_i ?_ | refine intC_b ?_ | refine max2_ii ?_ | refine min2_ii ?_ | refine keyP_s ?_ | refine keyP_i ?_ | refine iIRg1 ?_ | refine iIRg2 ?_ | refine iIEnT ?_ | refine add_llb (by with_unfolding_all rfl) ?_ | refine add_ttb (by with_unfolding_all rfl) ?_
  | refine inn_T (by with_unfolding_all rfl) (by decide +kernel) (by decide +kernel) (by decide +kernel) ?_ | refine inn_F (by with_unfolding_all rfl) (by decide +kernel) (by decide +kernel) (by decide +kernel) ?_
  | refine isi_T (by with_unfolding_all rfl) (by decide +kernel) ?_ | refine isi_F (by with_unfolding_all rfl) (by decide +kernel) ?_ | refine iPsC ?_ | refine iPsN ?_ | refine ifNT ?_ | refine ifNF ?_
  | refine andVDT (by with_reducible_and_instances first | omega | (simp only [List.length_cons, List.length_nil]; omega)) ?_ | refine andVDF (by with_reducible_and_instances first | omega | (simp only [List.length_cons, List.length_nil]; omega)) ?_ | refine ifDT (by with_reducible_and_instances first | omega | (simp only [List.length_cons, List.length_nil]; omega)) ?_ | refine ifDF (by with_reducible_and_instances first | omega | (simp only [List.length_cons, List.length_nil]; omega)) ?_
  | refine ifNDT (by with_reducible_and_instances first | omega | (simp only [List.length_cons, List.length_nil]; omega)) ?_ | refine ifNDF (by with_reducible_and_instances first | omega | (simp only [List.length_cons, List.length_nil]; omega)) ?_
  | fail "stuck")
def kvS (v : Sta → D) (q : Sta) : Key × D := (.inr (shD (itD q)), v q)
theorem getK_S (v : Sta → D) {t : Sta} : ∀ {S : List Sta}, (t ∈ S → (getK (S.map (kvS v)) (.inr (shD (itD t)))).isSome = true) ∧ (t ∉ S → getK (S.map (kvS v)) (.inr (shD (itD t))) = none)
  | [] => ⟨fun h => (by cases h), fun _ => rfl⟩
  | q :: S => by
    have ih := getK_S v (t := t) (S := S)
    rw [List.map_cons]
    unfold getK
    by_cases e : q = t
    · subst e
      refine ⟨fun _ => ?_, fun h => absurd (List.mem_cons_self ..) h⟩
      simp [kvS]
    · have ne : ¬ (kvS v q).1 = Sum.inr (shD (itD t)) := fun z => e (sh_st (by simpa [kvS] using z))
      refine ⟨fun h => ?_, fun h => ?_⟩
      · rcases List.mem_cons.mp h with z | z
        · exact absurd z.symm e
        · have := ih.1 z
          first | (rw [if_neg ne]; exact this) | (simp only [ne, if_false]; exact this) | (simp [ne]; exact this)
      · have := ih.2 fun z => h (List.mem_cons_of_mem _ z)
        first | (rw [if_neg ne]; exact this) | (simp only [ne, if_false]; exact this) | (simp [ne]; exact this)
theorem repr_s {q : Sta} {G : GH} {Q : DK} (e : Shw (itD q)) (h : Q (.str (shD (itD q))) G) : rRepr [itD q] G Q := repr_t e h
def spSt : DSp := fun ds G Q _ => ∃ w, ds = [toD w] ∧ Bd w ∧ Few 600 w ∧ ∀ es G', StL w es → Grow G G' → Q (.tup es) G'
theorem sts_ok {S : List Sta} (h : ∀ q ∈ S, StOk q) : okD (.lst (S.map itD)) := by
  obtain ⟨h1, h2⟩ := sts_sm h
  exact okD_of (by rw [smD]; exact h1) (by rw [depD]; omega)
theorem srtD_of {S : List Sta} (h : ∀ q ∈ S, StOk q) : SrtD (S.map itD) := by
  refine ⟨sms_pure _ (sts_sm h).1, fun d hd => ?_, fun d hd d' hd' => ?_⟩
  · obtain ⟨q, hq, rfl⟩ := List.mem_map.mp hd
    exact ⟨by have := (h q hq).dep; omega, q.1, [toD q.2], rfl⟩
  · obtain ⟨q, _, rfl⟩ := List.mem_map.mp hd
    obtain ⟨r, _, rfl⟩ := List.mem_map.mp hd'
    exact cmp_st q r
theorem states_of_rd : ∀ ds G Q E, spSt ds G Q E → r_states_of (pSp (RS 56)) (pSp RTk) (pSp (RT 60)) { nx := fun _ G' => Q .non G', rt := Q } (startD 9 ds) G := by
  rintro ds G Q E ⟨w, rfl, hw, hf, hq⟩
  unfold r_states_of
  have hz := hw.z
  have hd := hw.dp
  have h0 : StOk (0, tidyW w) := (Rch.beg (w := w)).ok hw
  walk_at "ds"
  refine ⟨_, rt_at hw.o (by omega) (by omega), fun G1 g1 => ?_⟩
  walk_at "ds"
  refine iDisp fun p2 hp2 => ?_
  have hp2' : G p2 = none := by cases e : G p2 with
    | none => rfl
    | some o => rw [g1 _ _ e] at hp2; cases hp2
  walk_at "ds"
  refine repr_t h0.shw ?_
  walk_at "ds"
  refine dispEnd updG_same (by with_unfolding_all rfl) (by rfl) ?_
  refine iGNm ?_
  refine iSeq ?_
  walk_at "ds"
  intro p3 hp3
  have hne : p3 ≠ p2 := by rintro rfl; rw [updG_same] at hp3; cases hp3
  have hp3' : G p3 = none := by cases e : G p3 with
    | none => rfl
    | some o => rw [updG_ne hne, updG_ne hne, g1 _ _ e] at hp3; cases hp3
  walk_at "ds"
  refine dWhile_of (I := fun n ρ G' => ∃ (S W : List Sta) (x4 x5 x6 x7 x8 : Option D), ρ = [some (toD w), some (itD (0, tidyW w)), some (.ref p2), some (.ref p3), x4, x5, x6, x7, x8] ∧ Bf w S W ∧ W.length + 2 * (600 - S.length) ≤ n ∧
    Grow G G' ∧ G' p3 = some (.lst (W.map itD)) ∧ G' p2 = some (.dct (S.map (kvS itD)))) ?_ 2000 _ _ ?_
  · rintro n ρ G' ⟨S, W, x4, x5, x6, x7, x8, rfl, hb, hn, gr, e3, e2⟩ K hK
    have okS : ∀ q ∈ S, StOk q := fun q hq => (hb.rch q hq).ok hw
    walk_at "ds"
    refine ne_rl e3 (sts_ok fun q hq => okS q (hb.sub q hq)) okNil ?_
    rcases List.eq_nil_or_concat W with rfl | ⟨V, q, rfl⟩
    · rw [show eqvD (.lst (([] : List Sta).map itD)) (.lst []) = true from by simp [eqvD, eqvDs]]
      refine ifF ?_
      walk_at "ds"
      refine iLsV ?_
      walk_at "ds"
      dsimp only
      rw [e2]
      dsimp only
      intro p hp
      refine frzR updG_same ?_
      have g4 : Grow G (dropG (updG G' p (.lst ((S.map (kvS itD)).map (·.2)))) p) := by
        have : G p = none := by cases e : G p with
          | none => rfl
          | some o => rw [gr _ _ e] at hp; cases hp
        exact Grow.drop this (Grow.upd2 this gr)
      generalize dropG (updG G' p (.lst ((S.map (kvS itD)).map (·.2)))) p = G4 at g4 ⊢
      rw [show (S.map (kvS itD)).map (·.2) = S.map itD from by rw [List.map_map]; rfl]
      walk_at "ds"
      refine sortD_i (srtD_of okS) fun es p5 pe ha hp5 => ?_
      have hp5' : G p5 = none := by cases e : G p5 with
        | none => rfl
        | some o => rw [g4 _ _ e] at hp5; cases hp5
      refine frzR updG_same ?_
      walk_at "ds"
      exact hq _ _ ⟨ha, S, hb.all, pe⟩ (Grow.drop hp5' (Grow.upd2 hp5' g4))
    · rw [List.concat_eq_append] at *
      rw [show eqvD (.lst ((V ++ [q]).map itD)) (.lst []) = false from by cases V <;> simp [eqvD, eqvDs]]
      refine ifT ?_
      have hqS := hb.sub q (by simp)
      have oq := okS q hqS
      have hqz := oq.b.1.z
      have hqd := oq.b.2
      rw [List.map_append] at e3
      replace e3 : G' p3 = some (.lst (V.map itD ++ [.tup [.int q.1, toD q.2]])) := e3
      walk_at "ds"
      refine pop_i e3 ?_
      have gr1 : Grow G (updG G' p3 (.lst (V.map itD))) := Grow.upd2 hp3' gr
      walk_at "ds"
      refine ⟨_, rs_at oq.b.1.o (by omega) (by omega), fun G2 g2 => ?_⟩
      unfold stepD
      walk_at "ds"
      refine dForGo_of (I := fun rest ρ G3 => ∃ (S2 W2 : List Sta) (ss : List Sg) (y6 y7 y8 : Option D), rest = ss.map (stepF q.2) ∧ ρ = [some (toD w), some (itD (0, tidyW w)), some (.ref p2), some (.ref p3), some (.int q.1), some (toD q.2), y6, y7, y8] ∧ Bi w S2 W2 q ss ∧
        W2.length + 2 * (600 - S2.length) < n ∧ Grow G G3 ∧ G3 p3 = some (.lst (W2.map itD)) ∧ G3 p2 = some (.dct (S2.map (kvS itD)))) ?_ ?_ _ _ _ ?_
      · rintro ρ G3 ⟨S2, W2, ss, y6, y7, y8, er, rfl, bi, hn2, g3, a3, a2⟩
        have : ss = [] := by cases ss with | nil => rfl | cons => cases er
        subst this
        exact ⟨trivial, hK (n - 1) (by omega) _ _ ⟨S2, W2, _, _, _, _, _, rfl, bi.done, by omega, g3, a3, a2⟩⟩
      · rintro x rest ρ G3 ⟨S2, W2, ss, y6, y7, y8, er, rfl, bi, hn2, g3, a3, a2⟩ K2 hK2
        cases ss with
        | nil => cases er
        | cons s ss =>
          injection er with er1 er2
          subst er1 er2
          have hs := bi.sg s (List.mem_cons_self ..)
          have hlen := hf S2 bi.nd bi.rch
          have ot : StOk (stp q s) := (Rch.go (bi.rch q bi.mq) hs).ok hw
          have sdp := (oq.b.1.th2 hs).2.1
          refine ⟨trivial, ?_⟩
          rw [show stepF q.2 s = .tup [sgD s, toD (aft q.2 s)] from rfl]
          walk_at "ds"
          refine ⟨_, ⟨s, rfl, by omega, rfl⟩, fun G4 g4 => ?_⟩
          have b3 := g4 _ _ a3
          have b2 := g4 _ _ a2
          walk_at "ds"
          rw [show D.tup [.int (q.1 + if tkS s = true then 1 else 0), toD (aft q.2 s)] = itD (stp q s) from rfl]
          refine repr_s ot.shw ?_
          walk_at "ds"
          refine dIn_i b2 ?_
          have gk := getK_S itD (t := stp q s) (S := S2)
          by_cases hm : stp q s ∈ S2
          · rw [gk.1 hm]
            refine ifF ?_
            refine iNext ?_
            exact hK2 _ _ ⟨S2, W2, ss, _, _, _, rfl, rfl, bi.old hm, hn2, g3.trans g4, b3, b2⟩
          · have hg := gk.2 hm
            rw [hg]
            refine ifT ?_
            walk_at "ds"
            refine repr_s ot.shw ?_
            refine sDct_i b2 (by rw [List.length_map, sizeL]; omega) ?_
            rw [putD_new hg]
            walk_at "ds"
            have c3 := (updG_ne (G := G4) (a := p2) (b := p3) (o := .dct (S2.map (kvS itD) ++ [(.inr (shD (itD (stp q s))), itD (stp q s))])) hne).trans b3
            have hW : W2.length ≤ 600 := Nat.le_trans (len_sub bi.wn bi.sub) hlen
            refine lstP_i c3 ?_
            walk_at "ds"
            refine app_i c3 (by rw [List.length_map, sizeL]; omega) ?_
            have bn := bi.new hm
            have hlen2 := hf _ bn.nd bn.rch
            rw [List.length_append, List.length_singleton] at hlen2
            refine hK2 _ _ ⟨S2 ++ [stp q s], W2 ++ [stp q s], ss, _, _, _, rfl, rfl, bn, ?_, Grow.upd2 hp3' (Grow.upd2 hp2' (g3.trans g4)), ?_, ?_⟩
            · rw [List.length_append, List.length_append, List.length_singleton]; omega
            · rw [updG_same, List.map_append]; rfl
            · rw [updG_ne hne.symm, updG_same, List.map_append]; rfl
      · refine ⟨S, V, nxW q.2, _, _, _, rfl, rfl, hb.pop, ?_, gr1.trans g2, g2 _ _ updG_same, g2 _ _ (by rw [updG_ne hne.symm]; exact e2)⟩
        rw [List.length_append, List.length_singleton] at hn
        omega
  · refine ⟨[(0, tidyW w)], [(0, tidyW w)], none, none, none, none, none, rfl, Bf.start w, by simp, ?_, updG_same, ?_⟩
    · exact Grow.upd2 hp3' (Grow.upd2 hp2' (Grow.upd2 hp2' g1))
    · rw [updG_ne hne.symm, updG_same]; rfl
end K23

namespace K23
open PySem L2 Dl K17 K18 K24
local macro_rules | `(tactic| walk_at "ds") => `(tactic| repeat' with_reducible first
  | refine iNeg ?_ | refine lstP_i (by assumption) ?_ | refine lstP_i updG_same ?_ | refine dctP_i (by assumption) ?_ | refine dctP_i updG_same ?_ | refine isN_T ?_ | refine isN_F (by with_unfolding_all rfl) ?_ | refine iRev ?_ | refine revT ?_ | refine revL ?_ | refine iCallG ?_ | refine iSeq ?_ | refine iNext ?_ | refine iIfS ?_ | refine iRet ?_ | refine iRetN ?_ | refine iDrop ?_ | refine iAsg ?_ | refine iPar ?_ | refine iGNm ?_
  | refine iGTp (by with_unfolding_all rfl) ?_ | refine iGsCons ?_ | refine iGsNil ?_ | refine iGSb ?_ | refine iVar (by with_unfolding_all rfl) ?_ | refine iC ?_ | refine iNil ?_ | refine iCons ?_
  | refine iTup ?_ | refine lenOk (by with_unfolding_all rfl) ?_ | refine iFrz ?_ | refine iLst ?_ | refine frzEnd ?_ | refine frzT ?_ | refine frzL ?_ | refine slT ?_ | refine lstC_t ?_ | refine lstC_l ?_ | refine iOp ?_ | refine iTst ?_ | refine iTru ?_ | refine truB ?_
  | refine iAnd ?_ | refine iOr ?_ | refine iNot ?_ | refine iAndVK ?_ | refine andVT ?_ | refine andVF ?_ | refine andVDT (by decide) ?_ | refine andVDF (by decide) ?_ | refine ifDT (by decide) ?_ | refine ifDF (by decide) ?_ | refine iNotV ?_ | refine iIf ?_ | refine ifT ?_ | refine ifF ?_ | refine iCall ?_ | refine iCB ?_ | refine iMt ?_
  | refine iSl ?_ | refine iP ?_ | refine iNoP ?_ | refine iStar ?_ | refine iDGet ?_ | refine iIsi ?_ | refine iMatch ?_ | refine iFor ?_ | refine iISq ?_
  | refine rIx_i (by with_unfolding_all rfl) (by with_unfolding_all rfl) ?_ | refine rIx_i (by with_unfolding_all rfl) atI_0 ?_ | refine eq_strT ?_ | refine eq_strF (by with_unfolding_all rfl) ?_ | refine ne_strT ?_ | refine ne_strF (by with_unfolding_all rfl) ?_ | refine eq_ii ?_ | refine ne_ii ?_
  | refine caT ?_ | refine caF (by with_unfolding_all rfl) ?_ | refine caN ?_ | refine add_ii ?_ | refine int0 ?_ | refine len_t ?_ | refine len_l ?_ | refine tupC_t ?_ | refine tupC_l ?_
  | refine intC_i ?_ | refine intC_b ?_ | refine max2_ii ?_ | refine min2_ii ?_ | refine keyP_s ?_ | refine keyP_i ?_ | refine iIRg1 ?_ | refine iIRg2 ?_ | refine iIEnT ?_ | refine add_llb (by with_unfolding_all rfl) ?_ | refine add_ttb (by with_unfolding_all rfl) ?_
  | refine inn_T (by with_unfolding_all rfl) (by decide +kernel) (by decide +kernel) (by decide +kernel) ?_ | refine inn_F (by with_unfolding_all rfl) (by decide +kernel) (by decide +kernel) (by decide +kernel) ?_
  | refine isi_T (by with_unfolding_all rfl) (by decide +kernel) ?_ | refine isi_F (by with_unfolding_all rfl) (by decide +kernel) ?_ | refine iPsC ?_ | refine iPsN ?_ | refine ifNT ?_ | refine ifNF ?_
  | refine andVDT (by with_reducible_and_instances first | omega | (simp only [List.length_cons, List.length_nil]; omega)) ?_ | refine andVDF (by with_reducible_and_instances first | omega | (simp only [List.length_cons, List.length_nil]; omega)) ?_ | refine ifDT (by with_reducible_and_instances first | omega | (simp only [List.length_cons, List.length_nil]; omega)) ?_ | refine ifDF (by with_reducible_and_instances first | omega | (simp only [List.length_cons, List.length_nil]; omega)) ?_
  | refine ifNDT (by with_reducible_and_instances first | omega | (simp only [List.length_cons, List.length_nil]; omega)) ?_ | refine ifNDF (by with_reducible_and_instances first | omega | (simp only [List.length_cons, List.length_nil]; omega)) ?_
  | fail "stuck")
theorem law_states_rd : ∀ ds G Q E, spSt ds G Q E → r_law_states (pSp (RX 56)) (pSp RA) (pSp (RIt 40)) (pSp (RT 60)) { nx := fun _ G' => Q .non G', rt := Q } (startD 8 ds) G := by
  rintro ds G Q E ⟨w, rfl, hw, hf, hq⟩
  unfold r_law_states
  have hz := hw.z
  have hd := hw.dp
  have h0 : StOk (0, tidyW w) := (Rch.beg (w := w)).ok hw
  walk_at "ds"
  refine ⟨_, rt_at hw.o (by omega) (by omega), fun G1 g1 => ?_⟩
  walk_at "ds"
  intro p1 hp1
  have hp1' : G p1 = none := by cases e : G p1 with
    | none => rfl
    | some o => rw [g1 _ _ e] at hp1; cases hp1
  walk_at "ds"
  refine iDisp fun p2 hp2 => ?_
  have h12 : p1 ≠ p2 := by rintro rfl; rw [updG_same] at hp2; cases hp2
  have hp2' : G p2 = none := by cases e : G p2 with
    | none => rfl
    | some o => rw [updG_ne h12.symm, g1 _ _ e] at hp2; cases hp2
  walk_at "ds"
  refine rIx_r (by rw [updG_ne h12]; exact updG_same) atI_0 ?_
  walk_at "ds"
  refine repr_t h0.shw ?_
  walk_at "ds"
  refine dispEnd updG_same (by with_unfolding_all rfl) (by rfl) ?_
  walk_at "ds"
  intro p3 hp3
  have h32 : p3 ≠ p2 := by rintro rfl; rw [updG_same] at hp3; cases hp3
  have h31 : p3 ≠ p1 := by rintro rfl; rw [updG_ne h32, updG_ne h32, updG_same] at hp3; cases hp3
  have hp3' : G p3 = none := by cases e : G p3 with
    | none => rfl
    | some o => rw [updG_ne h32, updG_ne h32, updG_ne h31, g1 _ _ e] at hp3; cases hp3
  walk_at "ds"
  refine dWhile_of (I := fun n ρ G' => ∃ (S W F : List Sta) (x4 x5 x6 x7 : Option D), ρ = [some (toD w), some (.ref p1), some (.ref p2), some (.ref p3), x4, x5, x6, x7] ∧ Bf w S W ∧ W.length + 2 * (600 - S.length) ≤ n ∧ List.Perm (F ++ W) S ∧
    Grow G G' ∧ G' p1 = some (.lst (W.map itD)) ∧ G' p2 = some (.dct (S.map (kvS fun _ => .int 1))) ∧ G' p3 = some (.lst (F.map itD))) ?_ 2000 _ _ ?_
  · rintro n ρ G' ⟨S, W, F, x4, x5, x6, x7, rfl, hb, hn, pf, gr, e1, e2, e3⟩ K hK
    have okS : ∀ q ∈ S, StOk q := fun q hq => (hb.rch q hq).ok hw
    walk_at "ds"
    refine ne_rl e1 (sts_ok fun q hq => okS q (hb.sub q hq)) okNil ?_
    rcases List.eq_nil_or_concat W with rfl | ⟨V, q, rfl⟩
    · rw [show eqvD (.lst (([] : List Sta).map itD)) (.lst []) = true from by simp [eqvD, eqvDs]]
      refine ifF ?_
      rw [List.append_nil] at pf
      walk_at "ds"
      refine sortD_r e3 (srtD_of fun q hq => okS q (pf.mem_iff.mp hq)) fun es p5 pe ha hp5 => ?_
      have hp5' : G p5 = none := by cases e : G p5 with
        | none => rfl
        | some o => rw [gr _ _ e] at hp5; cases hp5
      refine frzR updG_same ?_
      walk_at "ds"
      exact hq _ _ ⟨ha, S, hb.all, pe.trans (pf.map itD)⟩ (Grow.drop hp5' (Grow.upd2 hp5' gr))
    · rw [List.concat_eq_append] at *
      rw [show eqvD (.lst ((V ++ [q]).map itD)) (.lst []) = false from by cases V <;> simp [eqvD, eqvDs]]
      refine ifT ?_
      have hqS := hb.sub q (by simp)
      have oq := okS q hqS
      have hqz := oq.b.1.z
      have hqd := oq.b.2
      have hS := hf S hb.nd hb.rch
      have hFl : F.length ≤ 600 := by
        have := pf.length_eq
        rw [List.length_append] at this
        omega
      rw [List.map_append] at e1
      replace e1 : G' p1 = some (.lst (V.map itD ++ [.tup [.int q.1, toD q.2]])) := e1
      walk_at "ds"
      refine pop_i e1 ?_
      walk_at "ds"
      have f3 : updG G' p1 (.lst (V.map itD)) p3 = some (.lst (F.map itD)) := by rw [updG_ne h31]; exact e3
      refine lstP_i f3 ?_
      walk_at "ds"
      refine app_i f3 (by rw [List.length_map, sizeL]; omega) ?_
      have gr1 : Grow G (updG (updG G' p1 (.lst (V.map itD))) p3 (.lst (F.map itD ++ [itD q]))) := Grow.upd2 hp3' (Grow.upd2 hp1' gr)
      walk_at "ds"
      refine ⟨.lst ((nxW q.2).map sgD), rx_at oq.b.1.o (by omega) (by omega), fun G2 g2 => ?_⟩
      walk_at "ds"
      refine dForGo_of (I := fun rest ρ G3 => ∃ (S2 W2 : List Sta) (ss : List Sg) (y6 y7 : Option D), rest = ss.map sgD ∧ ρ = [some (toD w), some (.ref p1), some (.ref p2), some (.ref p3), some (.int q.1), some (toD q.2), y6, y7] ∧ Bi w S2 W2 q ss ∧
        W2.length + 2 * (600 - S2.length) < n ∧ List.Perm ((F ++ [q]) ++ W2) S2 ∧ Grow G G3 ∧ G3 p1 = some (.lst (W2.map itD)) ∧ G3 p2 = some (.dct (S2.map (kvS fun _ => .int 1))) ∧ G3 p3 = some (.lst ((F ++ [q]).map itD))) ?_ ?_ _ _ _ ?_
      · rintro ρ G3 ⟨S2, W2, ss, y6, y7, er, rfl, bi, hn2, p2', g3, a1, a2, a3⟩
        have : ss = [] := by cases ss with | nil => rfl | cons => cases er
        subst this
        exact ⟨trivial, hK (n - 1) (by omega) _ _ ⟨S2, W2, F ++ [q], _, _, _, _, rfl, bi.done, by omega, p2', g3, a1, a2, a3⟩⟩
      · rintro x rest ρ G3 ⟨S2, W2, ss, y6, y7, er, rfl, bi, hn2, p2', g3, a1, a2, a3⟩ K2 hK2
        cases ss with
        | nil => cases er
        | cons s ss =>
          injection er with er1 er2
          subst er1 er2
          have hs := bi.sg s (List.mem_cons_self ..)
          have hlen := hf S2 bi.nd bi.rch
          have ot : StOk (stp q s) := (Rch.go (bi.rch q bi.mq) hs).ok hw
          have sdp := (oq.b.1.th2 hs).2.1
          refine ⟨trivial, ?_⟩
          walk_at "ds"
          refine ⟨_, ⟨s, rfl, by omega, rfl⟩, fun G4 g4 => ?_⟩
          walk_at "ds"
          refine ⟨_, ⟨q.2, s, rfl, oq.b.1.o, by omega, by omega, hs, rfl⟩, fun G5 g5 => ?_⟩
          have g45 := g4.trans g5
          have b1 := g45 _ _ a1
          have b2 := g45 _ _ a2
          have b3 := g45 _ _ a3
          walk_at "ds"
          rw [show D.tup [.int (q.1 + tk1 s), toD (tidyW (behW q.2 s))] = itD (stp q s) from rfl]
          refine repr_s ot.shw ?_
          walk_at "ds"
          refine dIn_i b2 ?_
          have gk := getK_S (fun _ => .int 1) (t := stp q s) (S := S2)
          by_cases hm : stp q s ∈ S2
          · rw [gk.1 hm]
            refine ifF ?_
            refine iNext ?_
            exact hK2 _ _ ⟨S2, W2, ss, _, _, rfl, rfl, bi.old hm, hn2, p2', g3.trans g45, b1, b2, b3⟩
          · have hg := gk.2 hm
            rw [hg]
            refine ifT ?_
            walk_at "ds"
            refine repr_s ot.shw ?_
            refine sDct_i b2 (by rw [List.length_map, sizeL]; omega) ?_
            rw [putD_new hg]
            walk_at "ds"
            have c1 := (updG_ne (G := G5) (a := p2) (b := p1) (o := .dct (S2.map (kvS fun _ => .int 1) ++ [(.inr (shD (itD (stp q s))), .int 1)])) h12).trans b1
            have hW : W2.length ≤ 600 := Nat.le_trans (len_sub bi.wn bi.sub) hlen
            refine lstP_i c1 ?_
            walk_at "ds"
            refine app_i c1 (by rw [List.length_map, sizeL]; omega) ?_
            have bn := bi.new hm
            have hlen2 := hf _ bn.nd bn.rch
            rw [List.length_append, List.length_singleton] at hlen2
            refine hK2 _ _ ⟨S2 ++ [stp q s], W2 ++ [stp q s], ss, _, _, rfl, rfl, bn, ?_, ?_, Grow.upd2 hp1' (Grow.upd2 hp2' (g3.trans g45)), ?_, ?_, ?_⟩
            · rw [List.length_append, List.length_append, List.length_singleton]; omega
            · rw [← List.append_assoc]; exact p2'.append_right _
            · rw [updG_same, List.map_append]; rfl
            · rw [updG_ne h12.symm, updG_same, List.map_append]; rfl
            · rw [updG_ne h31, updG_ne h32]; exact b3
      · refine ⟨S, V, nxW q.2, _, _, rfl, rfl, hb.pop, ?_, ?_, gr1.trans g2, g2 _ _ (by rw [updG_ne h31.symm]; exact updG_same), g2 _ _ (by rw [updG_ne h32.symm, updG_ne h12.symm]; exact e2), g2 _ _ (by rw [updG_same, List.map_append]; rfl)⟩
        · rw [List.length_append, List.length_singleton] at hn
          omega
        · refine List.Perm.trans ?_ pf
          rw [List.append_assoc]
          exact List.Perm.append_left F (List.perm_append_comm)
  · refine ⟨[(0, tidyW w)], [(0, tidyW w)], [], none, none, none, none, rfl, Bf.start w, by simp, List.Perm.refl _, ?_, ?_, ?_, updG_same⟩
    · exact Grow.upd2 hp3' (Grow.upd2 hp2' (Grow.upd2 hp2' (Grow.upd2 hp1' g1)))
    · rw [updG_ne h31.symm, updG_ne h12, updG_ne h12, updG_same]; rfl
    · rw [updG_ne h32.symm, updG_same]; rfl
end K23

namespace K23
open PySem L2 Dl K17 K18 K24
local macro_rules | `(tactic| walk_at "ds") => `(tactic| repeat' with_reducible first
  | refine iNeg ?_ | refine lstP_i (by assumption) ?_ | refine lstP_i updG_same ?_ | refine dctP_i (by assumption) ?_ | refine dctP_i updG_same ?_ | refine isN_T ?_ | refine isN_F (by with_unfolding_all rfl) ?_ | refine iRev ?_ | refine revT ?_ | refine revL ?_ | refine iCallG ?_ | refine iSeq ?_ | refine iNext ?_ | refine iIfS ?_ | refine iRet ?_ | refine iRetN ?_ | refine iDrop ?_ | refine iAsg ?_ | refine iPar ?_ | refine iGNm ?_
  | refine iGTp (by with_unfolding_all rfl) ?_ | refine iGsCons ?_ | refine iGsNil ?_ | refine iGSb ?_ | refine iVar (by with_unfolding_all rfl) ?_ | refine iC ?_ | refine iNil ?_ | refine iCons ?_
  | refine iTup ?_ | refine lenOk (by with_unfolding_all rfl) ?_ | refine iFrz ?_ | refine iLst ?_ | refine frzEnd ?_ | refine frzT ?_ | refine frzL ?_ | refine slT ?_ | refine lstC_t ?_ | refine lstC_l ?_ | refine iOp ?_ | refine iTst ?_ | refine iTru ?_ | refine truB ?_
  | refine iAnd ?_ | refine iOr ?_ | refine iNot ?_ | refine iAndVK ?_ | refine andVT ?_ | refine andVF ?_ | refine andVDT (by decide) ?_ | refine andVDF (by decide) ?_ | refine ifDT (by decide) ?_ | refine ifDF (by decide) ?_ | refine iNotV ?_ | refine iIf ?_ | refine ifT ?_ | refine ifF ?_ | refine iCall ?_ | refine iCB ?_ | refine iMt ?_
  | refine iSl ?_ | refine iP ?_ | refine iNoP ?_ | refine iStar ?_ | refine iDGet ?_ | refine iIsi ?_ | refine iMatch ?_ | refine iFor ?_ | refine iISq ?_
  | refine rIx_i (by with_unfolding_all rfl) (by with_unfolding_all rfl) ?_ | refine rIx_i (by with_unfolding_all rfl) atI_0 ?_ | refine eq_strT ?_ | refine eq_strF (by with_unfolding_all rfl) ?_ | refine ne_strT ?_ | refine ne_strF (by with_unfolding_all rfl) ?_ | refine eq_ii ?_ | refine ne_ii ?_
  | refine caT ?_ | refine caF (by with_unfolding_all rfl) ?_ | refine caN ?_ | refine add_ii ?_ | refine int0 ?_ | refine len_t ?_ | refine len_l ?_ | refine tupC_t ?_ | refine tupC_l ?_
  | refine intC_i ?_ | refine intC_b ?_ | refine max2_ii ?_ | refine min2_ii ?_ | refine keyP_s ?_ | refine keyP_i ?_ | refine iIRg1 ?_ | refine iIRg2 ?_ | refine iIEnT ?_ | refine add_llb (by with_unfolding_all rfl) ?_ | refine add_ttb (by with_unfolding_all rfl) ?_
  | refine inn_T (by with_unfolding_all rfl) (by decide +kernel) (by decide +kernel) (by decide +kernel) ?_ | refine inn_F (by with_unfolding_all rfl) (by decide +kernel) (by decide +kernel) (by decide +kernel) ?_
  | refine isi_T (by with_unfolding_all rfl) (by decide +kernel) ?_ | refine isi_F (by with_unfolding_all rfl) (by decide +kernel) ?_ | refine iPsC ?_ | refine iPsN ?_ | refine ifNT ?_ | refine ifNF ?_
  | refine andVDT (by with_reducible_and_instances first | omega | (simp only [List.length_cons, List.length_nil]; omega)) ?_ | refine andVDF (by with_reducible_and_instances first | omega | (simp only [List.length_cons, List.length_nil]; omega)) ?_ | refine ifDT (by with_reducible_and_instances first | omega | (simp only [List.length_cons, List.length_nil]; omega)) ?_ | refine ifDF (by with_reducible_and_instances first | omega | (simp only [List.length_cons, List.length_nil]; omega)) ?_
  | refine ifNDT (by with_reducible_and_instances first | omega | (simp only [List.length_cons, List.length_nil]; omega)) ?_ | refine ifNDF (by with_reducible_and_instances first | omega | (simp only [List.length_cons, List.length_nil]; omega)) ?_
  | fail "stuck")
def spSm : DSp := fun ds G Q _ => ∃ w, ds = [toD w] ∧ Bd w ∧ ∀ b G', (b = true → Few 200 w) → Grow G G' → Q (.bl b) G'
theorem law_is_small_rd : ∀ ds G Q E, spSm ds G Q E → r_law_is_small (spEnd 30) (pSp (RX 56)) (pSp RA) (pSp (RIt 40)) (pSp (RT 60)) { nx := fun _ G' => Q .non G', rt := Q } (startD 7 ds) G := by
  rintro ds G Q E ⟨w, rfl, hw, hq⟩
  unfold r_law_is_small
  have hz := hw.z
  have hd := hw.dp
  have h0 : StOk (0, tidyW w) := (Rch.beg (w := w)).ok hw
  walk_at "ds"
  refine ⟨_, rt_at hw.o (by omega) (by omega), fun G1 g1 => ?_⟩
  walk_at "ds"
  intro p1 hp1
  have hp1' : G p1 = none := by cases e : G p1 with
    | none => rfl
    | some o => rw [g1 _ _ e] at hp1; cases hp1
  walk_at "ds"
  refine iDisp fun p2 hp2 => ?_
  have h12 : p1 ≠ p2 := by rintro rfl; rw [updG_same] at hp2; cases hp2
  have hp2' : G p2 = none := by cases e : G p2 with
    | none => rfl
    | some o => rw [updG_ne h12.symm, g1 _ _ e] at hp2; cases hp2
  walk_at "ds"
  refine rIx_r (by rw [updG_ne h12]; exact updG_same) atI_0 ?_
  walk_at "ds"
  refine repr_t h0.shw ?_
  walk_at "ds"
  refine dispEnd updG_same (by with_unfolding_all rfl) (by rfl) ?_
  refine iGNm ?_
  refine iSeq ?_
  refine dWhile_of (I := fun n ρ G' => ∃ (S W : List Sta) (x3 x4 x5 x6 : Option D), ρ = [some (toD w), some (.ref p1), some (.ref p2), x3, x4, x5, x6] ∧ Bf w S W ∧ n ≤ 400 ∧ W.length + (400 - n) = S.length ∧ S.length ≤ 100000 ∧
    Grow G G' ∧ G' p1 = some (.lst (W.map itD)) ∧ G' p2 = some (.dct (S.map (kvS fun _ => .int 1)))) ?_ 400 _ _ ?_
  · rintro n ρ G' ⟨S, W, x3, x4, x5, x6, rfl, hb, hn, hl, hS1, gr, e1, e2⟩ K hK
    have okS : ∀ q ∈ S, StOk q := fun q hq => (hb.rch q hq).ok hw
    have out : (S.length ≤ 200 → Few 200 w) → dRet (dAndV (dOp rLe (dCB rLen (dCons (dVar 2) dNil)) (dC (.int 200))) (dOp rLe (dCall (spEnd 30) (dCons (dVar 0) (dCons (dC (.bl false)) dNil))) (dC (.int 60)))) { nx := fun _ G' => Q .non G', rt := Q } [some (toD w), some (.ref p1), some (.ref p2), x3, x4, x5, x6] G' := by
      intro hfw
      walk_at "ds"
      refine len_d e2 ?_
      rw [List.length_map]
      walk_at "ds"
      refine andVD (fun h => ?_) (fun h => ?_)
      · walk_at "ds"
        refine ⟨w, false, rfl, hw.o, by omega, by omega, fun i G2 g2 => ?_⟩
        walk_at "ds"
        exact hq _ _ (fun _ => hfw (by omega)) (gr.trans g2)
      · exact hq _ _ (fun z => by cases z) gr
    walk_at "ds"
    refine ne_rl e1 (sts_ok fun q hq => okS q (hb.sub q hq)) okNil ?_
    rcases List.eq_nil_or_concat W with rfl | ⟨V, q, rfl⟩
    · rw [show eqvD (.lst (([] : List Sta).map itD)) (.lst []) = true from by simp [eqvD, eqvDs]]
      refine ifF ?_
      refine ifF ?_
      refine out fun h => ?_
      exact fun T nd hT => Nat.le_trans (hb.all.few T nd hT) h
    · rw [List.concat_eq_append] at *
      rw [show eqvD (.lst ((V ++ [q]).map itD)) (.lst []) = false from by cases V <;> simp [eqvD, eqvDs]]
      refine ifT ?_
      walk_at "ds"
      refine len_d e2 ?_
      rw [List.length_map]
      walk_at "ds"
      refine ifD (fun h => ?_) (fun h => out fun z => absurd (by omega) h)
      have hS : S.length ≤ 200 := by omega
      have hn0 : 0 < n := by
        rw [List.length_append, List.length_singleton] at hl
        omega
      have hqS := hb.sub q (by simp)
      have oq := okS q hqS
      have hqz := oq.b.1.z
      have hqd := oq.b.2
      have hnl := oq.b.1.nxs.2.2.2
      rw [List.map_append] at e1
      replace e1 : G' p1 = some (.lst (V.map itD ++ [.tup [.int q.1, toD q.2]])) := e1
      walk_at "ds"
      refine pop_i e1 ?_
      have gr1 : Grow G (updG G' p1 (.lst (V.map itD))) := Grow.upd2 hp1' gr
      walk_at "ds"
      refine ⟨.lst ((nxW q.2).map sgD), rx_at oq.b.1.o (by omega) (by omega), fun G2 g2 => ?_⟩
      walk_at "ds"
      refine dForGo_of (I := fun rest ρ G3 => ∃ (S2 W2 : List Sta) (ss : List Sg) (y5 y6 : Option D), rest = ss.map sgD ∧ ρ = [some (toD w), some (.ref p1), some (.ref p2), some (.int q.1), some (toD q.2), y5, y6] ∧ Bi w S2 W2 q ss ∧
        W2.length + (400 - (n - 1)) = S2.length ∧ S2.length + ss.length ≤ 2000 ∧ Grow G G3 ∧ G3 p1 = some (.lst (W2.map itD)) ∧ G3 p2 = some (.dct (S2.map (kvS fun _ => .int 1)))) ?_ ?_ _ _ _ ?_
      · rintro ρ G3 ⟨S2, W2, ss, y5, y6, er, rfl, bi, hn2, hl2, g3, a1, a2⟩
        have : ss = [] := by cases ss with | nil => rfl | cons => cases er
        subst this
        exact ⟨trivial, hK (n - 1) (by omega) _ _ ⟨S2, W2, _, _, _, _, rfl, bi.done, by omega, hn2, by omega, g3, a1, a2⟩⟩
      · rintro x rest ρ G3 ⟨S2, W2, ss, y5, y6, er, rfl, bi, hn2, hl2, g3, a1, a2⟩ K2 hK2
        cases ss with
        | nil => cases er
        | cons s ss =>
          injection er with er1 er2
          subst er1 er2
          rw [List.length_cons] at hl2
          have hs := bi.sg s (List.mem_cons_self ..)
          have ot : StOk (stp q s) := (Rch.go (bi.rch q bi.mq) hs).ok hw
          have sdp := (oq.b.1.th2 hs).2.1
          refine ⟨trivial, ?_⟩
          walk_at "ds"
          refine ⟨_, ⟨s, rfl, by omega, rfl⟩, fun G4 g4 => ?_⟩
          walk_at "ds"
          refine ⟨_, ⟨q.2, s, rfl, oq.b.1.o, by omega, by omega, hs, rfl⟩, fun G5 g5 => ?_⟩
          have g45 := g4.trans g5
          have b1 := g45 _ _ a1
          have b2 := g45 _ _ a2
          walk_at "ds"
          rw [show D.tup [.int (q.1 + tk1 s), toD (tidyW (behW q.2 s))] = itD (stp q s) from rfl]
          refine repr_s ot.shw ?_
          walk_at "ds"
          refine dIn_i b2 ?_
          have gk := getK_S (fun _ => .int 1) (t := stp q s) (S := S2)
          by_cases hm : stp q s ∈ S2
          · rw [gk.1 hm]
            refine ifF ?_
            refine iNext ?_
            exact hK2 _ _ ⟨S2, W2, ss, _, _, rfl, rfl, bi.old hm, hn2, by omega, g3.trans g45, b1, b2⟩
          · have hg := gk.2 hm
            rw [hg]
            refine ifT ?_
            walk_at "ds"
            refine repr_s ot.shw ?_
            refine sDct_i b2 (by rw [List.length_map, sizeL]; omega) ?_
            rw [putD_new hg]
            walk_at "ds"
            have c1 := (updG_ne (G := G5) (a := p2) (b := p1) (o := .dct (S2.map (kvS fun _ => .int 1) ++ [(.inr (shD (itD (stp q s))), .int 1)])) h12).trans b1
            have hW := len_sub bi.wn bi.sub
            refine lstP_i c1 ?_
            walk_at "ds"
            refine app_i c1 (by rw [List.length_map, sizeL]; omega) ?_
            refine hK2 _ _ ⟨S2 ++ [stp q s], W2 ++ [stp q s], ss, _, _, rfl, rfl, bi.new hm, ?_, ?_, Grow.upd2 hp1' (Grow.upd2 hp2' (g3.trans g45)), ?_, ?_⟩
            · rw [List.length_append, List.length_append, List.length_singleton]; omega
            · rw [List.length_append, List.length_singleton]; omega
            · rw [updG_same, List.map_append]; rfl
            · rw [updG_ne h12.symm, updG_same, List.map_append]; rfl
      · refine ⟨S, V, nxW q.2, _, _, rfl, rfl, hb.pop, ?_, by omega, gr1.trans g2, g2 _ _ updG_same, g2 _ _ (by rw [updG_ne h12.symm]; exact e2)⟩
        rw [List.length_append, List.length_singleton] at hl
        omega
  · refine ⟨[(0, tidyW w)], [(0, tidyW w)], none, none, none, none, rfl, Bf.start w, by omega, rfl, by simp, ?_, ?_, ?_⟩
    · exact Grow.upd2 hp2' (Grow.upd2 hp2' (Grow.upd2 hp1' g1))
    · rw [updG_ne h12, updG_ne h12, updG_same]; rfl
    · rw [updG_same]; rfl
theorem few_le {m n : Nat} {w : Wk} (h : Few m w) (k : m ≤ n) : Few n w := fun S nd hS => Nat.le_trans (h S nd hS) k
theorem few_by {n : Nat} {w : Wk} (h : (srch n [(0, tidyW w)] [(0, tidyW w)]).2.isEmpty = true) (k : (allB n w).length ≤ 600) : Few 600 w := few_le (all_of (by simpa using h)).few k
theorem few_rnd (t : Bool) : Few 600 (wRnd t) := by cases t <;> exact few_by (n := 60) (by decide +kernel) (by decide +kernel)
def spSJ23 : DSp := fun ds G Q _ => ∃ a b, ds = [.ref a, .int 3, .ref b] ∧ a ≠ b ∧ FeedOk G a ∧ SpareOk G b ∧ ∀ w G', Bd w → Few 600 w → FeedOk G' a → KeepY a b G G' → Q (toD w) G'
theorem law_small_job_rd : ∀ ds G Q E, spSJ23 ds G Q E → r_law_small_job spSm (pSp (RC (.tup [toD (wRnd false), toD (wRnd true)]))) spDraw (spJob 4) { nx := fun _ G' => Q .non G', rt := Q } (startD 4 ds) G := by
  rintro ds G Q E ⟨a, b, rfl, hab, hf, hs, hq⟩
  unfold r_law_small_job
  walk_at "ds"
  refine ⟨a, b, 3, rfl, hab, by decide, by decide, hf, hs, fun w G1 jw f1 s1 k1 => ?_⟩
  have hb : Bd w := JobOk.bd jw
  walk_at "ds"
  refine ⟨w, rfl, hb, fun c G2 hc g2 => ?_⟩
  walk_at "ds"
  have f2 := f1.grow g2
  have k2 : KeepY a b G G2 := fun c o n1 n2 e => g2 _ _ (k1 c o n1 n2 e)
  cases c with
  | true => walk_at "ds"; exact hq w _ hb (few_le (hc rfl) (by decide)) f2 k2
  | false =>
    walk_at "ds"
    refine ⟨_, ⟨rfl, rfl⟩, fun G3 g3 => ?_⟩
    walk_at "ds"
    refine ⟨a, 2, rfl, by decide, by decide, f2.grow g3, fun r G4 r0 r1 f4 k4 => ?_⟩
    have k4' : KeepY a b G G4 := (fun c o n1 n2 e => k4 _ _ n1 (g3 _ _ (k2 c o n1 n2 e)))
    have rr : r = 0 ∨ r = 1 := by omega
    rcases rr with rfl | rfl
    · walk_at "ds"; exact hq _ _ (bd_rnd false) (few_rnd false) f4 k4'
    · walk_at "ds"; exact hq _ _ (bd_rnd true) (few_rnd true) f4 k4'
def spSo23 : DSp := fun ds G Q _ => ∃ a, ds = [.ref a, .int 60] ∧ FeedOk G a ∧ ∀ w G', Bd w → Few 600 w → FeedOk G' a → KeepX a G G' → Q (toD w) G'
theorem law_some_job_rd : ∀ ds G Q E, spSo23 ds G Q E → r_law_some_job (pSp RRs) (pSp (RC (.tup [toD (wRnd false), toD (wRnd true)]))) spDraw spSJ23 { nx := fun _ G' => Q .non G', rt := Q } (startD 3 ds) G := by
  rintro ds G Q E ⟨a, rfl, hf, hq⟩
  unfold r_law_some_job
  walk_at "ds"
  refine ⟨a, 2, rfl, by decide, by decide, hf, fun r G1 r0 r1 f1 k1 => ?_⟩
  walk_at "ds"
  intro b hb
  have hab : a ≠ b := by rintro rfl; obtain ⟨_, _, _, _, e⟩ := f1; rw [hb] at e; cases e
  walk_at "ds"
  refine ⟨a, b, rfl, hab, f1.keepU hab, ⟨7, _, updG_same⟩, fun w G2 hw hfw f2 k2 => ?_⟩
  have k2' : KeepX a G G2 := fun c o n e => by
    have e1 := k1 c o n e
    have nb : c ≠ b := by rintro rfl; rw [hb] at e1; cases e1
    exact k2 c o n nb (by rw [updG_ne nb]; exact e1)
  walk_at "ds"
  refine ⟨_, ⟨w, 60, rfl, hw, by decide, by decide, rfl⟩, fun G3 g3 => ?_⟩
  walk_at "ds"
  refine ifD (fun h => ?_) (fun h => ?_)
  · walk_at "ds"
    exact hq _ _ hw hfw (f2.grow g3) (k2'.trans (KeepX.of g3))
  · walk_at "ds"
    refine ⟨_, ⟨rfl, rfl⟩, fun G6 g6 => ?_⟩
    walk_at "ds"
    refine ⟨a, 2, rfl, by decide, by decide, (f2.grow g3).grow g6, fun r G7 r0 r1 f7 k7 => ?_⟩
    have k7' := ((k2'.trans (KeepX.of g3)).trans (KeepX.of g6)).trans k7
    have rr : r = 0 ∨ r = 1 := by omega
    rcases rr with rfl | rfl
    · walk_at "ds"; exact hq _ _ (bd_rnd false) (few_rnd false) f7 k7'
    · walk_at "ds"; exact hq _ _ (bd_rnd true) (few_rnd true) f7 k7'
end K23

namespace K23
open PySem L2 Dl K17 K18 K24
local macro_rules | `(tactic| walk_at "ds") => `(tactic| repeat' with_reducible first
  | refine iNeg ?_ | refine lstP_i (by assumption) ?_ | refine lstP_i updG_same ?_ | refine dctP_i (by assumption) ?_ | refine dctP_i updG_same ?_ | refine isN_T ?_ | refine isN_F (by with_unfolding_all rfl) ?_ | refine iRev ?_ | refine revT ?_ | refine revL ?_ | refine iCallG ?_ | refine iSeq ?_ | refine iNext ?_ | refine iIfS ?_ | refine iRet ?_ | refine iRetN ?_ | refine iDrop ?_ | refine iAsg ?_ | refine iPar ?_ | refine iGNm ?_
  | refine iGTp (by with_unfolding_all rfl) ?_ | refine iGsCons ?_ | refine iGsNil ?_ | refine iGSb ?_ | refine iVar (by with_unfolding_all rfl) ?_ | refine iC ?_ | refine iNil ?_ | refine iCons ?_
  | refine iTup ?_ | refine lenOk (by with_unfolding_all rfl) ?_ | refine iFrz ?_ | refine iLst ?_ | refine frzEnd ?_ | refine frzT ?_ | refine frzL ?_ | refine slT ?_ | refine lstC_t ?_ | refine lstC_l ?_ | refine iOp ?_ | refine iTst ?_ | refine iTru ?_ | refine truB ?_
  | refine iAnd ?_ | refine iOr ?_ | refine iNot ?_ | refine iAndVK ?_ | refine andVT ?_ | refine andVF ?_ | refine andVDT (by decide) ?_ | refine andVDF (by decide) ?_ | refine ifDT (by decide) ?_ | refine ifDF (by decide) ?_ | refine iNotV ?_ | refine iIf ?_ | refine ifT ?_ | refine ifF ?_ | refine iCall ?_ | refine iCB ?_ | refine iMt ?_
  | refine iSl ?_ | refine iP ?_ | refine iNoP ?_ | refine iStar ?_ | refine iDGet ?_ | refine iIsi ?_ | refine iMatch ?_ | refine iFor ?_ | refine iISq ?_
  | refine rIx_i (by with_unfolding_all rfl) (by with_unfolding_all rfl) ?_ | refine rIx_i (by with_unfolding_all rfl) atI_0 ?_ | refine eq_strT ?_ | refine eq_strF (by with_unfolding_all rfl) ?_ | refine ne_strT ?_ | refine ne_strF (by with_unfolding_all rfl) ?_ | refine eq_ii ?_ | refine ne_ii ?_
  | refine caT ?_ | refine caF (by with_unfolding_all rfl) ?_ | refine caN ?_ | refine add_ii ?_ | refine int0 ?_ | refine len_t ?_ | refine len_l ?_ | refine tupC_t ?_ | refine tupC_l ?_
  | refine intC_i ?_ | refine intC_b ?_ | refine max2_ii ?_ | refine min2_ii ?_ | refine keyP_s ?_ | refine keyP_i ?_ | refine iIRg1 ?_ | refine iIRg2 ?_ | refine iIEnT ?_ | refine add_llb (by with_unfolding_all rfl) ?_ | refine add_ttb (by with_unfolding_all rfl) ?_
  | refine inn_T (by with_unfolding_all rfl) (by decide +kernel) (by decide +kernel) (by decide +kernel) ?_ | refine inn_F (by with_unfolding_all rfl) (by decide +kernel) (by decide +kernel) (by decide +kernel) ?_
  | refine isi_T (by with_unfolding_all rfl) (by decide +kernel) ?_ | refine isi_F (by with_unfolding_all rfl) (by decide +kernel) ?_ | refine iPsC ?_ | refine iPsN ?_ | refine ifNT ?_ | refine ifNF ?_
  | refine andVDT (by with_reducible_and_instances first | omega | (simp only [List.length_cons, List.length_nil]; omega)) ?_ | refine andVDF (by with_reducible_and_instances first | omega | (simp only [List.length_cons, List.length_nil]; omega)) ?_ | refine ifDT (by with_reducible_and_instances first | omega | (simp only [List.length_cons, List.length_nil]; omega)) ?_ | refine ifDF (by with_reducible_and_instances first | omega | (simp only [List.length_cons, List.length_nil]; omega)) ?_
  | refine ifNDT (by with_reducible_and_instances first | omega | (simp only [List.length_cons, List.length_nil]; omega)) ?_ | refine ifNDF (by with_reducible_and_instances first | omega | (simp only [List.length_cons, List.length_nil]; omega)) ?_
  | fail "stuck")
theorem StL.len {w : Wk} {es : List D} (h : StL w es) {S : List Sta} (k : AllS w S) : es.length = S.length := by
  obtain ⟨_, T, hT, p⟩ := h
  rw [p.length_eq, List.length_map, (hT.perm k).length_eq]
theorem StL.shw {w : Wk} (hw : Bd w) (hf : Few 600 w) {es : List D} (h : StL w es) : Shw (.lst [.tup es, .tup es]) := by
  obtain ⟨_, S, hS, p⟩ := h
  have okS : ∀ q ∈ S, StOk q := fun q hq => ((hS.mem q).mp hq).ok hw
  have hl := hf S hS.nd fun q hq => (hS.mem q).mp hq
  have hm : ∀ d ∈ es, ∃ q, StOk q ∧ d = itD q := fun d hd => by
    obtain ⟨q, hq, e⟩ := List.mem_map.mp (p.mem_iff.mp hd)
    exact ⟨q, okS q hq, e.symm⟩
  have he : es.length ≤ 600 := by rw [p.length_eq, List.length_map]; exact hl
  have sm : smDs es = true := by rw [smDs_iff]; intro d hd; obtain ⟨q, hq, rfl⟩ := hm d hd; exact hq.sm
  have dp : depDs es ≤ 22 := depDs_le fun d hd => by obtain ⟨q, hq, rfl⟩ := hm d hd; exact hq.dep
  have ll : lns es ≤ es.length * (6768 + 2) := lns_le fun d hd => by obtain ⟨q, hq, rfl⟩ := hm d hd; exact hq.len
  have lm : es.length * (6768 + 2) ≤ 600 * (6768 + 2) := Nat.mul_le_mul_right _ he
  have l1 := ln_tup es
  have l2 := ln_lst [.tup es, .tup es]
  simp only [lns] at l2
  have smm : smD (.lst [.tup es, .tup es]) = true := by simp only [smD, smDs, sm, Bool.and_true]
  refine ⟨rfl, okD_of smm ?_, sm_few _ smm, ?_⟩
  · simp only [depD, depDs]; omega
  · rw [len_ln, sizeL]; omega
def spAg23 : DSp := fun ds G Q _ => ∃ w, ds = [toD w] ∧ Bd w ∧ Few 600 w ∧ ∀ G', Grow G G' → Q (.bl true) G'
theorem law_agrees_rd : ∀ ds G Q E, spAg23 ds G Q E → r_law_agrees spSt spSt { nx := fun _ G' => Q .non G', rt := Q } (startD 3 ds) G := by
  rintro ds G Q E ⟨w, rfl, hw, hf, hq⟩
  unfold r_law_agrees
  walk_at "ds"
  refine repr_w hw.shw ?_
  walk_at "ds"
  refine ⟨w, rfl, hw, hf, fun es G1 hes g1 => ?_⟩
  walk_at "ds"
  refine ⟨w, rfl, hw, hf, fun e1 G2 h1 g2 => ?_⟩
  have := h1.uni hes
  subst this
  walk_at "ds"
  refine ⟨w, rfl, hw, hf, fun e2 G3 h2 g3 => ?_⟩
  have := h2.uni hes
  subst this
  walk_at "ds"
  refine repr_l (hes.shw hw hf) ?_
  walk_at "ds"
  refine repr_l (hes.shw hw hf) ?_
  walk_at "ds"
  refine repr_w hw.shw ?_
  walk_at "ds"
  exact hq _ ((g1.trans g2).trans g3)
def jobs3 : List Wk := [.row [], .row [.row [], .row [.tick 1, .tick 2]], .eit [.tick 2, .row [], .tick 1]]
def Good (w : Wk) : Prop := Bd w ∧ Few 600 w
theorem good_by {n : Nat} {w : Wk} (b : Bd w) (h : (srch n [(0, tidyW w)] [(0, tidyW w)]).2.isEmpty = true) (k : (allB n w).length ≤ 600) : Good w := ⟨b, few_by h k⟩
theorem good3 : ∀ w ∈ jobs3, Good w := by
  intro w hw
  simp only [jobs3, List.mem_cons, List.not_mem_nil, or_false] at hw
  rcases hw with rfl | rfl | rfl
  · exact good_by (n := 5) (bd_dec (by simp [okW, okWs]) (by decide) (by decide) (by decide)).1 (by decide +kernel) (by decide +kernel)
  · exact good_by (n := 20) (bd_dec (by simp [okW, okWs]) (by decide) (by decide) (by decide)).1 (by decide +kernel) (by decide +kernel)
  · exact good_by (n := 20) (bd_dec (by simp [okW, okWs]) (by decide) (by decide) (by decide)).1 (by decide +kernel) (by decide +kernel)
theorem good_great : ∀ w ∈ [wG1, wG2, wG3], Good w := by
  intro w hw
  simp only [List.mem_cons, List.not_mem_nil, or_false] at hw
  rcases hw with rfl | rfl | rfl
  · exact good_by (n := 700) (bd_dec (by simp [wG1, okW, okWs]) (by decide) (by decide) (by decide)).1 (by decide +kernel) (by decide +kernel)
  · exact good_by (n := 700) (bd_dec (by simp [wG2, okW, okWs]) (by decide) (by decide) (by decide)).1 (by decide +kernel) (by decide +kernel)
  · exact good_by (n := 700) (bd_dec (by simp [wG3, okW, okWs]) (by decide) (by decide) (by decide)).1 (by decide +kernel) (by decide +kernel)
theorem good_sides : Good wSides := good_by (n := 40) (bd_dec (by simp [wSides, okW]) (by decide) (by decide) (by decide)).1 (by decide +kernel) (by decide +kernel)
theorem good_rnd (t : Bool) : Good (wRnd t) := ⟨bd_rnd t, few_rnd t⟩
theorem one_st {es : List D} (h : StL (.row []) es) : es = [itD (0, .row [])] := by
  have k : AllS (.row []) [(0, .row [])] := by
    have := all_of (n := 5) (w := .row []) (by decide +kernel)
    have e : allB 5 (.row []) = [(0, .row [])] := by decide +kernel
    rwa [e] at this
  obtain ⟨_, S, hS, p⟩ := h
  exact List.perm_singleton.mp (p.trans ((hS.perm k).map itD))
def restL : DTS :=
  (dSeq (dFor (iSq (dFrz (dOp rAdd (dFrz (dOp rAdd (dVar 3) (dFrz (dCB rLstC (dCons (dCall (pSp (RC (.tup [toD (wRnd false), toD (wRnd true)]))) dNil) dNil))))) (dFrz (dLst (dCons (dCall (pSp (RC (toD wSides))) dNil) dNil)))))) (gNm 4)
        (dIfS (dNot (dTru (dCall spAg23 (dCons (dVar 4) dNil))))
        (dRet (dC (.bl false)))
        dNext))
        (dSeq (dFor (iRg1 (dCons (dC (.int 4)) dNil)) (gNm 5)
        (dIfS (dNot (dTru (dCall spAg23 (dCons (dCall spSo23 (dCons (dVar 1) (dCons (dC (.int 60)) dNil))) dNil))))
        (dRet (dC (.bl false)))
        dNext))
        (dRet (dC (.bl true)))))
theorem law_rd : ∀ ds G Q E, spLaw ds G Q E → r_law spAg23 spSo23 (pSp (RC (.tup [toD (wRnd false), toD (wRnd true)]))) (pSp (RC (toD wSides))) spDraw (pSp (RC (.tup [toD wG1, toD wG2, toD wG3]))) spSt spFeed
    { nx := fun _ G' => Q .non G', rt := Q } (startD 6 ds) G := by
  rintro ds G Q E ⟨ns, rfl, hq⟩
  unfold r_law
  rw [show ((dSeq (dFor (iSq (dFrz (dOp rAdd (dFrz (dOp rAdd (dVar 3) (dFrz (dCB rLstC (dCons (dCall (pSp (RC (.tup [toD (wRnd false), toD (wRnd true)]))) dNil) dNil))))) (dFrz (dLst (dCons (dCall (pSp (RC (toD wSides))) dNil) dNil)))))) (gNm 4)
        (dIfS (dNot (dTru (dCall spAg23 (dCons (dVar 4) dNil))))
        (dRet (dC (.bl false)))
        dNext))
        (dSeq (dFor (iRg1 (dCons (dC (.int 4)) dNil)) (gNm 5)
        (dIfS (dNot (dTru (dCall spAg23 (dCons (dCall spSo23 (dCons (dVar 1) (dCons (dC (.int 60)) dNil))) dNil))))
        (dRet (dC (.bl false)))
        dNext))
        (dRet (dC (.bl true))))) : DTS) = restL from rfl]
  have g0 : Good (.row []) := good3 _ (by simp [jobs3])
  walk_at "ds"
  refine ⟨ns, rfl, fun a G1 g1 f1 ha => ?_⟩
  walk_at "ds"
  refine ⟨.row [], by simp only [toD, toDs], g0.1, g0.2, fun es G2 hes g2 => ?_⟩
  rw [one_st hes]
  walk_at "ds"
  have ok1 : okD (.tup [itD (0, .row [])]) := okD_of (by decide +kernel) (by decide +kernel)
  refine ne_i ok1 ok1 ?_
  rw [show eqvD (.tup [itD (0, .row [])]) (.tup [.tup [.int 0, .tup [.str "row", .tup []]]]) = true from by decide +kernel]
  walk_at "ds"
  refine ⟨_, ⟨rfl, rfl⟩, fun G3 g3 => ?_⟩
  walk_at "ds"
  refine ⟨wRnd false, rfl, bd_rnd false, few_rnd false, fun es2 G4 hes2 g4 => ?_⟩
  have hl15 : es2.length = 15 := by
    rw [hes2.len (all_of (n := 60) (w := wRnd false) (by decide +kernel))]
    decide +kernel
  walk_at "ds"
  have f4 : FeedOk G4 a := ((f1.grow g2).grow g3).grow g4
  have main : ∀ (J : List Wk) (G5 : GH) (x4 x5 : Option D), (∀ w ∈ J, Good w) → J.length ≤ 20 → FeedOk G5 a →
      restL { nx := fun _ G' => Q .non G', rt := Q } [some (.scr ns), some (.ref a), some (toD (.row [])), some (.lst (J.map toD)), x4, x5] G5 := by
    intro J G5 x4 x5 hJ hJl f5
    unfold restL
    walk_at "ds"
    refine ⟨_, ⟨rfl, rfl⟩, fun G6 g6 => ?_⟩
    walk_at "ds"
    refine add_ll (by rw [List.length_map, sizeL]; simp only [List.length_cons, List.length_nil]; omega) ?_
    intro q1 hq1
    refine frzR updG_same ?_
    have g7 : Grow G5 (dropG (updG G6 q1 (.lst (J.map toD ++ [toD (wRnd false), toD (wRnd true)]))) q1) := g6.trans (Grow.drop hq1 (Grow.upd hq1))
    generalize dropG (updG G6 q1 (.lst (J.map toD ++ [toD (wRnd false), toD (wRnd true)]))) q1 = G7 at g7 ⊢
    walk_at "ds"
    refine ⟨_, ⟨rfl, rfl⟩, fun G8 g8 => ?_⟩
    walk_at "ds"
    refine add_ll (by rw [List.length_append, List.length_map, sizeL]; simp only [List.length_cons, List.length_nil]; omega) ?_
    intro q2 hq2
    refine frzR updG_same ?_
    have g9 : Grow G5 (dropG (updG G8 q2 (.lst (J.map toD ++ [toD (wRnd false), toD (wRnd true)] ++ [toD wSides]))) q2) := (g7.trans g8).trans (Grow.drop hq2 (Grow.upd hq2))
    generalize dropG (updG G8 q2 (.lst (J.map toD ++ [toD (wRnd false), toD (wRnd true)] ++ [toD wSides]))) q2 = G9 at g9 ⊢
    walk_at "ds"
    rw [show J.map toD ++ [toD (wRnd false), toD (wRnd true)] ++ [toD wSides] = (J ++ [wRnd false, wRnd true] ++ [wSides]).map toD from by simp]
    refine forL _ _ (J := fun ρ G' => ∃ (y4 y5 : Option D), ρ = [some (.scr ns), some (.ref a), some (toD (.row [])), some (.lst (J.map toD)), y4, y5] ∧ FeedOk G' a) ?_ ?_ _ _ ⟨_, _, rfl, f5.grow g9⟩
    · rintro ρ G10 ⟨y4, y5, rfl, f10⟩
      walk_at "ds"
      refine ⟨by decide, by decide, ?_⟩
      rw [rngD_map]
      refine forL _ _ (J := fun ρ G' => ∃ (z4 z5 : Option D), ρ = [some (.scr ns), some (.ref a), some (toD (.row [])), some (.lst (J.map toD)), z4, z5] ∧ FeedOk G' a) ?_ ?_ _ _ ⟨_, _, rfl, f10⟩
      · rintro ρ G11 ⟨z4, z5, rfl, f11⟩
        walk_at "ds"
        exact hq _
      · rintro i hi ρ G11 ⟨z4, z5, rfl, f11⟩ K hK
        walk_at "ds"
        refine ⟨a, rfl, f11, fun w G12 hw hfw f12 k12 => ?_⟩
        walk_at "ds"
        refine ⟨w, rfl, hw, hfw, fun G13 g13 => ?_⟩
        walk_at "ds"
        exact hK _ _ ⟨_, _, rfl, f12.grow g13⟩
    · rintro w hwJ ρ G10 ⟨y4, y5, rfl, f10⟩ K hK
      have gw : Good w := by
        rcases List.mem_append.mp hwJ with z | z
        · rcases List.mem_append.mp z with y | y
          · exact hJ w y
          · simp only [List.mem_cons, List.not_mem_nil, or_false] at y
            rcases y with rfl | rfl <;> exact good_rnd _
        · rw [List.mem_singleton] at z; rw [z]; exact good_sides
      walk_at "ds"
      refine ⟨w, rfl, gw.1, gw.2, fun G11 g11 => ?_⟩
      walk_at "ds"
      exact hK _ _ ⟨_, _, rfl, f10.grow g11⟩
  refine neS_i ?_
  walk_at "ds"
  have e3 : ([.tup [.str "row", .tup []], .tup [.str "row", .tup [.tup [.str "row", .tup []], .tup [.str "row", .tup [.tup [.str "tick", .int 1], .tup [.str "tick", .int 2]]]]], .tup [.str "either", .tup [.tup [.str "tick", .int 2], .tup [.str "row", .tup []], .tup [.str "tick", .int 1]]]] : List D) = jobs3.map toD := by
    simp only [jobs3, List.map_cons, List.map_nil, toD, toDs]
  refine ifD (fun h => ?_) (fun h => ?_)
  · walk_at "ds"
    refine ⟨a, 8, rfl, by decide, by decide, f4, fun r G5 r0 r1 f5 k5 => ?_⟩
    walk_at "ds"
    refine ifD (fun h8 => ?_) (fun h8 => ?_)
    · walk_at "ds"
      refine ⟨_, ⟨rfl, rfl⟩, fun G6 g6 => ?_⟩
      walk_at "ds"
      rw [e3, show jobs3.map toD ++ [toD wG1, toD wG2, toD wG3] = (jobs3 ++ [wG1, wG2, wG3]).map toD from by simp]
      refine main _ _ _ _ (fun w hw => ?_) (by simp [jobs3]) (f5.grow g6)
      rcases List.mem_append.mp hw with z | z
      · exact good3 w z
      · exact good_great w z
    · walk_at "ds"
      rw [e3]
      exact main _ _ _ _ good3 (by simp [jobs3]) f5
  · walk_at "ds"
    rw [e3]
    exact main _ _ _ _ good3 (by simp [jobs3]) f4
theorem noRIt0 (ds : List D) (G : GH) (Q : DK) (E : DXK) : ¬ pSp (RIt 0) ds G Q E := fun ⟨_, ⟨s, _, h, _⟩, _⟩ => by omega
end K23

namespace K23
open PySem L2 Dl
structure Tx (K : PySem.W.Frag) (mg : Str → Option Value) : Prop where
  m_enumerate : mg "enumerate" = none
  m_int : mg "int" = none
  m_isinstance : mg "isinstance" = none
  m_len : mg "len" = none
  m_list : mg "list" = none
  m_max : mg "max" = none
  m_min : mg "min" = none
  m_range : mg "range" = none
  m_repr : mg "repr" = none
  m_sorted : mg "sorted" = none
  m_sum : mg "sum" = none
  m_tuple : mg "tuple" = none
  c_OVER : ∃ u, mg "OVER" = some u ∧ ∃ v, RelV v u ∧ ∀ G H, RepV K G H (.tup [.str "row", .tup []]) v
  c_TICK : ∃ u, mg "TICK" = some u ∧ ∃ v, RelV v u ∧ ∀ G H, RepV K G H (.str "tick") v
  c_MORE : ∃ u, mg "MORE" = some u ∧ ∃ v, RelV v u ∧ ∀ G H, RepV K G H (.str "more") v
  c_END : ∃ u, mg "END" = some u ∧ ∃ v, RelV v u ∧ ∀ G H, RepV K G H (.str "end") v
theorem hu70_of {A : Around} {k : Nat} (hr : Room k A) : A.units + 70 < cLine := by have := hr.un; omega
abbrev N_tidy : List Str := ["work", "one", "other", "found", "part", "own"]
abbrev P_tidy : List Str := ["work"]

theorem sc_tidy : FnScope N_tidy P_tidy (defScope s_tidy) := ⟨rfl, rfl, rfl, by decide +kernel, rfl, by decide +kernel, by decide +kernel⟩

theorem b_tidy {P : Program} {w : World} {K : PySem.W.Frag} {mg : Str → Option Value} {base : Heap} {k : Nat} {f : Addr} (T : Tx K mg) {sp_tidy : DSp} (C_tidy : Callee P w K mg base k "tidy" P_tidy sp_tidy)  (cdv : Value) (A : Around) (out : List Env) (st : Shared) (H : Hp) (E : XK)
    (hr : Room k (A.deeper (PyProof.Rows.envOfC "tidy" (defScope s_tidy) st.heap.objs.size f cdv))) (hgd : (A.deeper (PyProof.Rows.envOfC "tidy" (defScope s_tidy) st.heap.objs.size f cdv)).guards = some []) :
    DSs (cxOf CX0 P w K mg base N_tidy "tidy" (defScope s_tidy) f cdv A out st H E).nox (defBody s_tidy) (r_tidy sp_tidy) := by
  have SC := sc_tidy
  have hu := hu_of hr
  have hu64 := hr.units
  have hu70 := hu70_of hr
  exact (ds_cons (ds_if (dt_cmp (o_eq hu64) (de_ix (dv 0) de_int) de_str (nomark _))
  (ds_cons (ds_par (i := 1) (j := 2) rfl SC.nd rfl rfl (by decide) rfl rfl (da_cons (dc C_tidy hr hgd rfl (da_cons (de_ix (dv 0) de_int) da_nil)) (da_cons (dc C_tidy hr hgd rfl (da_cons (de_ix (dv 0) de_int) da_nil)) da_nil)) rfl)
  (ds_one (ds_ret (de_if (dt_w (dw_and (dt_cmp (o_eq hu64) (dv 1) (de_glob rfl T.c_OVER) (nomark _)) (dw_and1 (dt_cmp (o_eq hu64) (dv 2) (de_glob rfl T.c_OVER) (nomark _))))) (de_glob rfl T.c_OVER) (de_tup (da_cons de_str (da_cons (dv 1) (da_cons (dv 2) da_nil))))))))
  ds_nil)
  (ds_cons (ds_if (dt_cmp (o_ne hu64) (de_ix (dv 0) de_int) de_str (nomark _))
  (ds_one (ds_ret (dv 0)))
  ds_nil)
  (ds_cons (ds_set (i := 3) SC.nd rfl (by first | exact Or.inl rfl | exact Or.inr rfl) (de_lst da_nil))
  (ds_cons (ds_for PassesOwn.never rfl (di_seq (de_ix (dv 0) de_int)) (dg_name (i := 4) SC.nd rfl (by first | exact Or.inl rfl | exact Or.inr rfl))
  (ds_cons (ds_set (i := 5) SC.nd rfl (by first | exact Or.inl rfl | exact Or.inr rfl) (dc C_tidy hr hgd rfl (da_cons (dv 4) da_nil)))
  (ds_one (ds_expr (de_extend (dv 3) (de_if (dt_cmp (o_eq hu64) (de_ix (dv 5) de_int) de_str (nomark _)) (de_ix (dv 5) de_int) (de_frz (de_lst (da_cons (dv 5) da_nil)))))))))
  (ds_one (ds_ret (de_if (dt_cmp (o_eq hu64) (de_callB c_len rfl T.m_len PySem.boot_len (da_cons (dv 3) da_nil)) de_int (nomark _)) (de_ix (dv 3) de_int) (de_tup (da_cons de_str (da_cons (de_callTy c_tuple rfl T.m_tuple (by decide +kernel) (da_cons (dv 3) da_nil)) da_nil))))))))))

theorem d_tidy {P : Program} {w : World} {K : PySem.W.Frag} {mg : Str → Option Value} {base : Heap} {k : Nat} {f : Addr} {fd : FuncData} {sp : DSp} (T : Tx K mg) {sp_tidy : DSp} (C_tidy : Callee P w K mg base k "tidy" P_tidy sp_tidy) 
    (F : FunD K "tidy" "tidy" (defArgs s_tidy) (defBody s_tidy) (defScope s_tidy) [] [] f fd) (len : ∀ ds G Q E, sp ds G Q E → ds.length = 1)
    (ok : ∀ ds G Q E, sp ds G Q E → (r_tidy sp_tidy) { nx := fun _ G' => Q .non G', rt := Q } (startD 6 ds) G) : DFn P w K mg base (k + 1) f fd P_tidy sp :=
  dfn_of F sc_tidy len (b_tidy T C_tidy) ok

theorem k_tidy {P : Program} {w : World} {K : PySem.W.Frag} {mg : Str → Option Value} {base : Heap} {k : Nat} {f : Addr} {fd : FuncData} {sp : DSp} (T : Tx K mg) {sp_tidy : DSp} (C_tidy : Callee P w K mg base k "tidy" P_tidy sp_tidy) 
    (F : FunD K "tidy" "tidy" (defArgs s_tidy) (defBody s_tidy) (defScope s_tidy) [] [] f fd) (hm : mg "tidy" = some (.ref f)) (len : ∀ ds G Q E, sp ds G Q E → ds.length = 1)
    (ok : ∀ ds G Q E, sp ds G Q E → (r_tidy sp_tidy) { nx := fun _ G' => Q .non G', rt := Q } (startD 6 ds) G) : Callee P w K mg base (k + 1) "tidy" P_tidy sp :=
  callee_of F hm (d_tidy T C_tidy F len ok) (fun _ _ _ _ _ _ us hl => match us, hl with | [_], _ => rfl) (fun _ _ _ _ _ _ us hl => match us, hl with | [_], _ => rfl)

theorem z_tidy {P : Program} {w : World} {K : PySem.W.Frag} {mg : Str → Option Value} {base : Heap} {f : Addr} {fd : FuncData} {sp : DSp} (F : FunD K "tidy" "tidy" (defArgs s_tidy) (defBody s_tidy) (defScope s_tidy) [] [] f fd) (hm : mg "tidy" = some (.ref f)) (h : ∀ ds G Q E, ¬ sp ds G Q E) : Callee P w K mg base 0 "tidy" P_tidy sp :=
  callee0 F hm h (fun _ _ _ _ _ _ us hl => match us, hl with | [_], _ => rfl) (fun _ _ _ _ _ _ us hl => match us, hl with | [_], _ => rfl)

abbrev N_ticks_left : List Str := ["n"]
abbrev P_ticks_left : List Str := ["n"]

theorem sc_ticks_left : FnScope N_ticks_left P_ticks_left (defScope s_ticks_left) := ⟨rfl, rfl, rfl, by decide +kernel, rfl, by decide +kernel, by decide +kernel⟩

theorem b_ticks_left {P : Program} {w : World} {K : PySem.W.Frag} {mg : Str → Option Value} {base : Heap} {k : Nat} {f : Addr} (T : Tx K mg)    (cdv : Value) (A : Around) (out : List Env) (st : Shared) (H : Hp) (E : XK)
    (hr : Room k (A.deeper (PyProof.Rows.envOfC "ticks_left" (defScope s_ticks_left) st.heap.objs.size f cdv))) (hgd : (A.deeper (PyProof.Rows.envOfC "ticks_left" (defScope s_ticks_left) st.heap.objs.size f cdv)).guards = some []) :
    DSs (cxOf CX0 P w K mg base N_ticks_left "ticks_left" (defScope s_ticks_left) f cdv A out st H E).nox (defBody s_ticks_left) (r_ticks_left) := by
  have SC := sc_ticks_left
  have hu := hu_of hr
  have hu64 := hr.units
  have hu70 := hu70_of hr
  exact (ds_one (ds_ret (de_if (dt_cmp (o_eq hu64) (dv 0) de_int (nomark _)) (de_glob rfl T.c_OVER) (de_tup (da_cons (de_glob rfl T.c_TICK) (da_cons (dv 0) da_nil))))))

theorem d_ticks_left {P : Program} {w : World} {K : PySem.W.Frag} {mg : Str → Option Value} {base : Heap} {k : Nat} {f : Addr} {fd : FuncData} {sp : DSp} (T : Tx K mg)   
    (F : FunD K "ticks_left" "ticks_left" (defArgs s_ticks_left) (defBody s_ticks_left) (defScope s_ticks_left) [] [] f fd) (len : ∀ ds G Q E, sp ds G Q E → ds.length = 1)
    (ok : ∀ ds G Q E, sp ds G Q E → (r_ticks_left) { nx := fun _ G' => Q .non G', rt := Q } (startD 1 ds) G) : DFn P w K mg base (k + 1) f fd P_ticks_left sp :=
  dfn_of F sc_ticks_left len (b_ticks_left T) ok

theorem k_ticks_left {P : Program} {w : World} {K : PySem.W.Frag} {mg : Str → Option Value} {base : Heap} {k : Nat} {f : Addr} {fd : FuncData} {sp : DSp} (T : Tx K mg)   
    (F : FunD K "ticks_left" "ticks_left" (defArgs s_ticks_left) (defBody s_ticks_left) (defScope s_ticks_left) [] [] f fd) (hm : mg "ticks_left" = some (.ref f)) (len : ∀ ds G Q E, sp ds G Q E → ds.length = 1)
    (ok : ∀ ds G Q E, sp ds G Q E → (r_ticks_left) { nx := fun _ G' => Q .non G', rt := Q } (startD 1 ds) G) : Callee P w K mg base (k + 1) "ticks_left" P_ticks_left sp :=
  callee_of F hm (d_ticks_left T F len ok) (fun _ _ _ _ _ _ us hl => match us, hl with | [_], _ => rfl) (fun _ _ _ _ _ _ us hl => match us, hl with | [_], _ => rfl)

abbrev N_some_steps : List Str := ["least", "most", "told", "n", "found"]
abbrev P_some_steps : List Str := ["least", "most", "told"]

theorem sc_some_steps : FnScope N_some_steps P_some_steps (defScope s_some_steps) := ⟨rfl, rfl, rfl, by decide +kernel, rfl, by decide +kernel, by decide +kernel⟩

theorem b_some_steps {P : Program} {w : World} {K : PySem.W.Frag} {mg : Str → Option Value} {base : Heap} {k : Nat} {f : Addr} (T : Tx K mg) {sp_ticks_left : DSp} (C_ticks_left : Callee P w K mg base k "ticks_left" P_ticks_left sp_ticks_left)  (cdv : Value) (A : Around) (out : List Env) (st : Shared) (H : Hp) (E : XK)
    (hr : Room k (A.deeper (PyProof.Rows.envOfC "some_steps" (defScope s_some_steps) st.heap.objs.size f cdv))) (hgd : (A.deeper (PyProof.Rows.envOfC "some_steps" (defScope s_some_steps) st.heap.objs.size f cdv)).guards = some []) :
    DSs (cxOf CX0 P w K mg base N_some_steps "some_steps" (defScope s_some_steps) f cdv A out st H E).nox (defBody s_some_steps) (r_some_steps sp_ticks_left) := by
  have SC := sc_some_steps
  have hu := hu_of hr
  have hu64 := hr.units
  have hu70 := hu70_of hr
  exact (ds_cons (ds_if (dt_tru (dv 2))
  (ds_one (ds_ret (de_frz (de_lc (own := [("n", 3)]) (ct := (.one 3)) rfl SC.nd (di_range2 rfl T.m_range (da_cons (dv 0) (da_cons (de_op o_add (dv 1) de_int) da_nil))) (blkOk_by (by show blkC N_some_steps (defScope s_some_steps) _ _ = true; decide +kernel)) (by decide) (fun _ _ _ _ _ => pg_name (i := 3) SC.nd rfl (Or.inl rfl)) (fun _ _ _ _ _ => dts_nil) (fun _ _ _ _ _ => (de_tup (da_cons (de_tup (da_cons de_str (da_cons (dv 3) da_nil))) (da_cons (dc C_ticks_left hr hgd rfl (da_cons (dv 3) da_nil)) da_nil))))))))
  ds_nil)
  (ds_cons (ds_set (i := 4) SC.nd rfl (by first | exact Or.inl rfl | exact Or.inr rfl) (de_if (dt_cmp o_gt (dv 1) de_int (nomark _)) (de_frz (de_lst (da_cons (de_tup (da_cons (de_glob rfl T.c_TICK) (da_cons (de_tup (da_cons de_str (da_cons (de_callB (c_max2 rfl) rfl T.m_max (by decide +kernel) (da_cons de_int (da_cons (de_op o_sub (dv 0) de_int) da_nil))) (da_cons (de_op o_sub (dv 1) de_int) (da_cons de_bl da_nil))))) da_nil))) da_nil))) (de_frz (de_lst da_nil))))
  (ds_one (ds_ret (de_frz (de_op o_add (dv 4) (de_if (dt_cmp (o_eq hu64) (dv 0) de_int (nomark _)) (de_frz (de_lst (da_cons (de_tup (da_cons (de_glob rfl T.c_END) (da_cons (de_glob rfl T.c_OVER) da_nil))) da_nil))) (de_frz (de_lst da_nil)))))))))

theorem d_some_steps {P : Program} {w : World} {K : PySem.W.Frag} {mg : Str → Option Value} {base : Heap} {k : Nat} {f : Addr} {fd : FuncData} {sp : DSp} (T : Tx K mg) {sp_ticks_left : DSp} (C_ticks_left : Callee P w K mg base k "ticks_left" P_ticks_left sp_ticks_left) 
    (F : FunD K "some_steps" "some_steps" (defArgs s_some_steps) (defBody s_some_steps) (defScope s_some_steps) [] [] f fd) (len : ∀ ds G Q E, sp ds G Q E → ds.length = 3)
    (ok : ∀ ds G Q E, sp ds G Q E → (r_some_steps sp_ticks_left) { nx := fun _ G' => Q .non G', rt := Q } (startD 5 ds) G) : DFn P w K mg base (k + 1) f fd P_some_steps sp :=
  dfn_of F sc_some_steps len (b_some_steps T C_ticks_left) ok

theorem k_some_steps {P : Program} {w : World} {K : PySem.W.Frag} {mg : Str → Option Value} {base : Heap} {k : Nat} {f : Addr} {fd : FuncData} {sp : DSp} (T : Tx K mg) {sp_ticks_left : DSp} (C_ticks_left : Callee P w K mg base k "ticks_left" P_ticks_left sp_ticks_left) 
    (F : FunD K "some_steps" "some_steps" (defArgs s_some_steps) (defBody s_some_steps) (defScope s_some_steps) [] [] f fd) (hm : mg "some_steps" = some (.ref f)) (len : ∀ ds G Q E, sp ds G Q E → ds.length = 3)
    (ok : ∀ ds G Q E, sp ds G Q E → (r_some_steps sp_ticks_left) { nx := fun _ G' => Q .non G', rt := Q } (startD 5 ds) G) : Callee P w K mg base (k + 1) "some_steps" P_some_steps sp :=
  callee_of F hm (d_some_steps T C_ticks_left F len ok) (fun _ _ _ _ _ _ us hl => match us, hl with | [_, _, _], _ => rfl) (fun _ _ _ _ _ _ us hl => match us, hl with | [_, _, _], _ => rfl)

abbrev N_loop_steps : List Str := ["least", "most", "told", "work", "n", "later", "found"]
abbrev P_loop_steps : List Str := ["least", "most", "told", "work"]

theorem sc_loop_steps : FnScope N_loop_steps P_loop_steps (defScope s_loop_steps) := ⟨rfl, rfl, rfl, by decide +kernel, rfl, by decide +kernel, by decide +kernel⟩

theorem b_loop_steps {P : Program} {w : World} {K : PySem.W.Frag} {mg : Str → Option Value} {base : Heap} {k : Nat} {f : Addr} (T : Tx K mg) {sp_tidy : DSp} (C_tidy : Callee P w K mg base k "tidy" P_tidy sp_tidy)  (cdv : Value) (A : Around) (out : List Env) (st : Shared) (H : Hp) (E : XK)
    (hr : Room k (A.deeper (PyProof.Rows.envOfC "loop_steps" (defScope s_loop_steps) st.heap.objs.size f cdv))) (hgd : (A.deeper (PyProof.Rows.envOfC "loop_steps" (defScope s_loop_steps) st.heap.objs.size f cdv)).guards = some []) :
    DSs (cxOf CX0 P w K mg base N_loop_steps "loop_steps" (defScope s_loop_steps) f cdv A out st H E).nox (defBody s_loop_steps) (r_loop_steps sp_tidy) := by
  have SC := sc_loop_steps
  have hu := hu_of hr
  have hu64 := hr.units
  have hu70 := hu70_of hr
  exact (ds_cons (ds_if (dt_tru (dv 2))
  (ds_one (ds_ret (de_frz (de_lc (own := [("n", 4)]) (ct := (.one 4)) rfl SC.nd (di_range2 rfl T.m_range (da_cons (dv 0) (da_cons (de_op o_add (dv 1) de_int) da_nil))) (blkOk_by (by show blkC N_loop_steps (defScope s_loop_steps) _ _ = true; decide +kernel)) (by decide) (fun _ _ _ _ _ => pg_name (i := 4) SC.nd rfl (Or.inl rfl)) (fun _ _ _ _ _ => dts_nil) (fun _ _ _ _ _ => (de_tup (da_cons (de_tup (da_cons de_str (da_cons (dv 4) da_nil))) (da_cons (dc C_tidy hr hgd rfl (da_cons (de_tup (da_cons de_str (da_cons (de_op o_mul (de_tup (da_cons (dv 3) da_nil)) (dv 4)) da_nil))) da_nil)) da_nil))))))))
  ds_nil)
  (ds_cons (ds_set (i := 5) SC.nd rfl (by first | exact Or.inl rfl | exact Or.inr rfl) (de_tup (da_cons de_str (da_cons (de_callB (c_max2 rfl) rfl T.m_max (by decide +kernel) (da_cons de_int (da_cons (de_op o_sub (dv 0) de_int) da_nil))) (da_cons (de_op o_sub (dv 1) de_int) (da_cons de_bl (da_cons (dv 3) da_nil)))))))
  (ds_cons (ds_set (i := 6) SC.nd rfl (by first | exact Or.inl rfl | exact Or.inr rfl) (de_if (dt_cmp o_gt (dv 1) de_int (nomark _)) (de_frz (de_lst (da_cons (de_tup (da_cons (de_glob rfl T.c_MORE) (da_cons (dc C_tidy hr hgd rfl (da_cons (de_tup (da_cons de_str (da_cons (de_tup (da_cons (dv 3) (da_cons (dv 5) da_nil))) da_nil))) da_nil)) da_nil))) da_nil))) (de_frz (de_lst da_nil))))
  (ds_one (ds_ret (de_frz (de_op o_add (dv 6) (de_if (dt_cmp (o_eq hu64) (dv 0) de_int (nomark _)) (de_frz (de_lst (da_cons (de_tup (da_cons (de_glob rfl T.c_END) (da_cons (de_glob rfl T.c_OVER) da_nil))) da_nil))) (de_frz (de_lst da_nil))))))))))

theorem d_loop_steps {P : Program} {w : World} {K : PySem.W.Frag} {mg : Str → Option Value} {base : Heap} {k : Nat} {f : Addr} {fd : FuncData} {sp : DSp} (T : Tx K mg) {sp_tidy : DSp} (C_tidy : Callee P w K mg base k "tidy" P_tidy sp_tidy) 
    (F : FunD K "loop_steps" "loop_steps" (defArgs s_loop_steps) (defBody s_loop_steps) (defScope s_loop_steps) [] [] f fd) (len : ∀ ds G Q E, sp ds G Q E → ds.length = 4)
    (ok : ∀ ds G Q E, sp ds G Q E → (r_loop_steps sp_tidy) { nx := fun _ G' => Q .non G', rt := Q } (startD 7 ds) G) : DFn P w K mg base (k + 1) f fd P_loop_steps sp :=
  dfn_of F sc_loop_steps len (b_loop_steps T C_tidy) ok

theorem k_loop_steps {P : Program} {w : World} {K : PySem.W.Frag} {mg : Str → Option Value} {base : Heap} {k : Nat} {f : Addr} {fd : FuncData} {sp : DSp} (T : Tx K mg) {sp_tidy : DSp} (C_tidy : Callee P w K mg base k "tidy" P_tidy sp_tidy) 
    (F : FunD K "loop_steps" "loop_steps" (defArgs s_loop_steps) (defBody s_loop_steps) (defScope s_loop_steps) [] [] f fd) (hm : mg "loop_steps" = some (.ref f)) (len : ∀ ds G Q E, sp ds G Q E → ds.length = 4)
    (ok : ∀ ds G Q E, sp ds G Q E → (r_loop_steps sp_tidy) { nx := fun _ G' => Q .non G', rt := Q } (startD 7 ds) G) : Callee P w K mg base (k + 1) "loop_steps" P_loop_steps sp :=
  callee_of F hm (d_loop_steps T C_tidy F len ok) (fun _ _ _ _ _ _ us hl => match us, hl with | [_, _, _, _], _ => rfl) (fun _ _ _ _ _ _ us hl => match us, hl with | [_, _, _, _], _ => rfl)

abbrev N_beside_steps : List Str := ["one", "other", "found", "sign", "left"]
abbrev P_beside_steps : List Str := ["one", "other"]

theorem sc_beside_steps : FnScope N_beside_steps P_beside_steps (defScope s_beside_steps) := ⟨rfl, rfl, rfl, by decide +kernel, rfl, by decide +kernel, by decide +kernel⟩

theorem b_beside_steps {P : Program} {w : World} {K : PySem.W.Frag} {mg : Str → Option Value} {base : Heap} {k : Nat} {f : Addr} (T : Tx K mg) {sp_steps_of : DSp} {sp_tidy : DSp} (C_steps_of : Callee P w K mg base k "steps_of" P_steps_of sp_steps_of) (C_tidy : Callee P w K mg base k "tidy" P_tidy sp_tidy)  (cdv : Value) (A : Around) (out : List Env) (st : Shared) (H : Hp) (E : XK)
    (hr : Room k (A.deeper (PyProof.Rows.envOfC "beside_steps" (defScope s_beside_steps) st.heap.objs.size f cdv))) (hgd : (A.deeper (PyProof.Rows.envOfC "beside_steps" (defScope s_beside_steps) st.heap.objs.size f cdv)).guards = some []) :
    DSs (cxOf CX0 P w K mg base N_beside_steps "beside_steps" (defScope s_beside_steps) f cdv A out st H E).nox (defBody s_beside_steps) (r_beside_steps sp_steps_of sp_tidy) := by
  have SC := sc_beside_steps
  have hu := hu_of hr
  have hu64 := hr.units
  have hu70 := hu70_of hr
  exact (ds_cons (ds_setLcF (i := 2) (own := [("sign", 3), ("left", 4)]) (ct := (.tup [3, 4])) rfl SC.nd rfl rfl (sw_true rfl rfl rfl (by decide +kernel)) (di_seq (dc C_steps_of hr hgd rfl (da_cons (dv 0) da_nil))) (blkOk_by (by show blkC N_beside_steps (defScope s_beside_steps) _ _ = true; decide +kernel)) (by decide) (fun _ _ _ _ _ => pg_tup rfl (pgs_cons (pg_name (i := 3) SC.nd rfl (Or.inl rfl)) (pgs_cons (pg_name (i := 4) SC.nd rfl (Or.inl rfl)) pgs_nil))) (fun _ _ _ _ _ => dts_nil) (fun _ _ _ _ _ => (de_tup (da_cons (de_tup (da_cons de_str (da_cons (dv 3) da_nil))) (da_cons (dc C_tidy hr hgd rfl (da_cons (de_tup (da_cons de_str (da_cons (dv 4) (da_cons (dv 1) da_nil)))) da_nil)) da_nil)))))
  (ds_one (ds_ret (de_frz (de_op o_add (dv 2) (de_frz (de_lc (own := [("sign", 3), ("left", 4)]) (ct := (.tup [3, 4])) rfl SC.nd (di_seq (dc C_steps_of hr hgd rfl (da_cons (dv 1) da_nil))) (blkOk_by (by show blkC N_beside_steps (defScope s_beside_steps) _ _ = true; decide +kernel)) (by decide) (fun _ _ _ _ _ => pg_tup rfl (pgs_cons (pg_name (i := 3) SC.nd rfl (Or.inl rfl)) (pgs_cons (pg_name (i := 4) SC.nd rfl (Or.inl rfl)) pgs_nil))) (fun _ _ _ _ _ => dts_nil) (fun _ _ _ _ _ => (de_tup (da_cons (de_tup (da_cons de_str (da_cons (dv 3) da_nil))) (da_cons (dc C_tidy hr hgd rfl (da_cons (de_tup (da_cons de_str (da_cons (dv 0) (da_cons (dv 4) da_nil)))) da_nil)) da_nil)))))))))))

theorem d_beside_steps {P : Program} {w : World} {K : PySem.W.Frag} {mg : Str → Option Value} {base : Heap} {k : Nat} {f : Addr} {fd : FuncData} {sp : DSp} (T : Tx K mg) {sp_steps_of : DSp} {sp_tidy : DSp} (C_steps_of : Callee P w K mg base k "steps_of" P_steps_of sp_steps_of) (C_tidy : Callee P w K mg base k "tidy" P_tidy sp_tidy) 
    (F : FunD K "beside_steps" "beside_steps" (defArgs s_beside_steps) (defBody s_beside_steps) (defScope s_beside_steps) [] [] f fd) (len : ∀ ds G Q E, sp ds G Q E → ds.length = 2)
    (ok : ∀ ds G Q E, sp ds G Q E → (r_beside_steps sp_steps_of sp_tidy) { nx := fun _ G' => Q .non G', rt := Q } (startD 5 ds) G) : DFn P w K mg base (k + 1) f fd P_beside_steps sp :=
  dfn_of F sc_beside_steps len (b_beside_steps T C_steps_of C_tidy) ok

theorem k_beside_steps {P : Program} {w : World} {K : PySem.W.Frag} {mg : Str → Option Value} {base : Heap} {k : Nat} {f : Addr} {fd : FuncData} {sp : DSp} (T : Tx K mg) {sp_steps_of : DSp} {sp_tidy : DSp} (C_steps_of : Callee P w K mg base k "steps_of" P_steps_of sp_steps_of) (C_tidy : Callee P w K mg base k "tidy" P_tidy sp_tidy) 
    (F : FunD K "beside_steps" "beside_steps" (defArgs s_beside_steps) (defBody s_beside_steps) (defScope s_beside_steps) [] [] f fd) (hm : mg "beside_steps" = some (.ref f)) (len : ∀ ds G Q E, sp ds G Q E → ds.length = 2)
    (ok : ∀ ds G Q E, sp ds G Q E → (r_beside_steps sp_steps_of sp_tidy) { nx := fun _ G' => Q .non G', rt := Q } (startD 5 ds) G) : Callee P w K mg base (k + 1) "beside_steps" P_beside_steps sp :=
  callee_of F hm (d_beside_steps T C_steps_of C_tidy F len ok) (fun _ _ _ _ _ _ us hl => match us, hl with | [_, _], _ => rfl) (fun _ _ _ _ _ _ us hl => match us, hl with | [_, _], _ => rfl)

abbrev N_steps_of : List Str := ["work", "i", "part", "rest", "first", "sign", "left"]
abbrev P_steps_of : List Str := ["work"]

theorem sc_steps_of : FnScope N_steps_of P_steps_of (defScope s_steps_of) := ⟨rfl, rfl, rfl, by decide +kernel, rfl, by decide +kernel, by decide +kernel⟩

theorem b_steps_of {P : Program} {w : World} {K : PySem.W.Frag} {mg : Str → Option Value} {base : Heap} {k : Nat} {f : Addr} (T : Tx K mg) {sp_tidy : DSp} {sp_steps_of : DSp} {sp_beside_steps : DSp} {sp_loop_steps : DSp} {sp_some_steps : DSp} {sp_ticks_left : DSp} (C_tidy : Callee P w K mg base k "tidy" P_tidy sp_tidy) (C_steps_of : Callee P w K mg base k "steps_of" P_steps_of sp_steps_of) (C_beside_steps : Callee P w K mg base k "beside_steps" P_beside_steps sp_beside_steps) (C_loop_steps : Callee P w K mg base k "loop_steps" P_loop_steps sp_loop_steps) (C_some_steps : Callee P w K mg base k "some_steps" P_some_steps sp_some_steps) (C_ticks_left : Callee P w K mg base k "ticks_left" P_ticks_left sp_ticks_left)  (cdv : Value) (A : Around) (out : List Env) (st : Shared) (H : Hp) (E : XK)
    (hr : Room k (A.deeper (PyProof.Rows.envOfC "steps_of" (defScope s_steps_of) st.heap.objs.size f cdv))) (hgd : (A.deeper (PyProof.Rows.envOfC "steps_of" (defScope s_steps_of) st.heap.objs.size f cdv)).guards = some []) :
    DSs (cxOf CX0 P w K mg base N_steps_of "steps_of" (defScope s_steps_of) f cdv A out st H E).nox (defBody s_steps_of) (r_steps_of sp_tidy sp_steps_of sp_beside_steps sp_loop_steps sp_some_steps sp_ticks_left) := by
  have SC := sc_steps_of
  have hu := hu_of hr
  have hu64 := hr.units
  have hu70 := hu70_of hr
  exact (ds_one (ds_match (de_ix (dv 0) de_int) (dms_val (ds_one (ds_ret (de_frz (de_lst (da_cons (de_tup (da_cons (de_glob rfl T.c_TICK) (da_cons (dc C_ticks_left hr hgd rfl (da_cons (de_op o_sub (de_ix (dv 0) de_int) de_int) da_nil)) da_nil))) da_nil)))))
  (dms_val (ds_one (ds_ret (dc C_some_steps hr hgd rfl (da_cons (de_ix (dv 0) de_int) (da_cons (de_ix (dv 0) de_int) (da_cons (de_ix (dv 0) de_int) da_nil))))))
  (dms_val (ds_one (ds_ret (dc C_loop_steps hr hgd rfl (da_cons (de_ix (dv 0) de_int) (da_cons (de_ix (dv 0) de_int) (da_cons (de_ix (dv 0) de_int) (da_cons (de_ix (dv 0) de_int) da_nil)))))))
  (dms_val (ds_one (ds_ret (de_frz (de_lc (own := [("i", 1), ("part", 2)]) (ct := (.tup [1, 2])) rfl SC.nd (di_enumT rfl T.m_enumerate (de_ix (dv 0) de_int)) (blkOk_by (by show blkC N_steps_of (defScope s_steps_of) _ _ = true; decide +kernel)) (by decide) (fun _ _ _ _ _ => pg_tup rfl (pgs_cons (pg_name (i := 1) SC.nd rfl (Or.inl rfl)) (pgs_cons (pg_name (i := 2) SC.nd rfl (Or.inl rfl)) pgs_nil))) (fun _ _ _ _ _ => dts_nil) (fun _ _ _ _ _ => (de_tup (da_cons (de_tup (da_cons de_str (da_cons (dv 1) da_nil))) (da_cons (dc C_tidy hr hgd rfl (da_cons (dv 2) da_nil)) da_nil))))))))
  (dms_val (ds_one (ds_ret (dc C_beside_steps hr hgd rfl (da_cons (de_ix (dv 0) de_int) (da_cons (de_ix (dv 0) de_int) da_nil)))))
  (dms_any (ds_cons (ds_set (i := 3) SC.nd rfl (by first | exact Or.inl rfl | exact Or.inr rfl) (de_slice (de_ix (dv 0) de_int) (do_some de_int) do_none))
  (ds_cons (ds_set (i := 4) SC.nd rfl (by first | exact Or.inl rfl | exact Or.inr rfl) (de_if (dt_cmp (o_ne hu64) (de_ix (dv 0) de_int) (de_tup da_nil) (nomark _)) (dc C_steps_of hr hgd rfl (da_cons (de_ix (de_ix (dv 0) de_int) de_int) da_nil)) (de_frz (de_lst da_nil))))
  (ds_one (ds_ret (de_frz (de_lc (own := [("sign", 5), ("left", 6)]) (ct := (.tup [5, 6])) rfl SC.nd (di_seq (dv 4)) (blkOk_by (by show blkC N_steps_of (defScope s_steps_of) _ _ = true; decide +kernel)) (by decide) (fun _ _ _ _ _ => pg_tup rfl (pgs_cons (pg_name (i := 5) SC.nd rfl (Or.inl rfl)) (pgs_cons (pg_name (i := 6) SC.nd rfl (Or.inl rfl)) pgs_nil))) (fun _ _ _ _ _ => dts_nil) (fun _ _ _ _ _ => (de_tup (da_cons (dv 5) (da_cons (dc C_tidy hr hgd rfl (da_cons (de_tup (da_cons de_str (da_cons (de_tup (da_cons (dv 6) (da_star (dv 3) da_nil))) da_nil))) da_nil)) da_nil))))))))))))))))))

theorem d_steps_of {P : Program} {w : World} {K : PySem.W.Frag} {mg : Str → Option Value} {base : Heap} {k : Nat} {f : Addr} {fd : FuncData} {sp : DSp} (T : Tx K mg) {sp_tidy : DSp} {sp_steps_of : DSp} {sp_beside_steps : DSp} {sp_loop_steps : DSp} {sp_some_steps : DSp} {sp_ticks_left : DSp} (C_tidy : Callee P w K mg base k "tidy" P_tidy sp_tidy) (C_steps_of : Callee P w K mg base k "steps_of" P_steps_of sp_steps_of) (C_beside_steps : Callee P w K mg base k "beside_steps" P_beside_steps sp_beside_steps) (C_loop_steps : Callee P w K mg base k "loop_steps" P_loop_steps sp_loop_steps) (C_some_steps : Callee P w K mg base k "some_steps" P_some_steps sp_some_steps) (C_ticks_left : Callee P w K mg base k "ticks_left" P_ticks_left sp_ticks_left) 
    (F : FunD K "steps_of" "steps_of" (defArgs s_steps_of) (defBody s_steps_of) (defScope s_steps_of) [] [] f fd) (len : ∀ ds G Q E, sp ds G Q E → ds.length = 1)
    (ok : ∀ ds G Q E, sp ds G Q E → (r_steps_of sp_tidy sp_steps_of sp_beside_steps sp_loop_steps sp_some_steps sp_ticks_left) { nx := fun _ G' => Q .non G', rt := Q } (startD 7 ds) G) : DFn P w K mg base (k + 1) f fd P_steps_of sp :=
  dfn_of F sc_steps_of len (b_steps_of T C_tidy C_steps_of C_beside_steps C_loop_steps C_some_steps C_ticks_left) ok

theorem k_steps_of {P : Program} {w : World} {K : PySem.W.Frag} {mg : Str → Option Value} {base : Heap} {k : Nat} {f : Addr} {fd : FuncData} {sp : DSp} (T : Tx K mg) {sp_tidy : DSp} {sp_steps_of : DSp} {sp_beside_steps : DSp} {sp_loop_steps : DSp} {sp_some_steps : DSp} {sp_ticks_left : DSp} (C_tidy : Callee P w K mg base k "tidy" P_tidy sp_tidy) (C_steps_of : Callee P w K mg base k "steps_of" P_steps_of sp_steps_of) (C_beside_steps : Callee P w K mg base k "beside_steps" P_beside_steps sp_beside_steps) (C_loop_steps : Callee P w K mg base k "loop_steps" P_loop_steps sp_loop_steps) (C_some_steps : Callee P w K mg base k "some_steps" P_some_steps sp_some_steps) (C_ticks_left : Callee P w K mg base k "ticks_left" P_ticks_left sp_ticks_left) 
    (F : FunD K "steps_of" "steps_of" (defArgs s_steps_of) (defBody s_steps_of) (defScope s_steps_of) [] [] f fd) (hm : mg "steps_of" = some (.ref f)) (len : ∀ ds G Q E, sp ds G Q E → ds.length = 1)
    (ok : ∀ ds G Q E, sp ds G Q E → (r_steps_of sp_tidy sp_steps_of sp_beside_steps sp_loop_steps sp_some_steps sp_ticks_left) { nx := fun _ G' => Q .non G', rt := Q } (startD 7 ds) G) : Callee P w K mg base (k + 1) "steps_of" P_steps_of sp :=
  callee_of F hm (d_steps_of T C_tidy C_steps_of C_beside_steps C_loop_steps C_some_steps C_ticks_left F len ok) (fun _ _ _ _ _ _ us hl => match us, hl with | [_], _ => rfl) (fun _ _ _ _ _ _ us hl => match us, hl with | [_], _ => rfl)

theorem z_steps_of {P : Program} {w : World} {K : PySem.W.Frag} {mg : Str → Option Value} {base : Heap} {f : Addr} {fd : FuncData} {sp : DSp} (F : FunD K "steps_of" "steps_of" (defArgs s_steps_of) (defBody s_steps_of) (defScope s_steps_of) [] [] f fd) (hm : mg "steps_of" = some (.ref f)) (h : ∀ ds G Q E, ¬ sp ds G Q E) : Callee P w K mg base 0 "steps_of" P_steps_of sp :=
  callee0 F hm h (fun _ _ _ _ _ _ us hl => match us, hl with | [_], _ => rfl) (fun _ _ _ _ _ _ us hl => match us, hl with | [_], _ => rfl)

abbrev N_is_tick : List Str := ["sign"]
abbrev P_is_tick : List Str := ["sign"]

theorem sc_is_tick : FnScope N_is_tick P_is_tick (defScope s_is_tick) := ⟨rfl, rfl, rfl, by decide +kernel, rfl, by decide +kernel, by decide +kernel⟩

theorem b_is_tick {P : Program} {w : World} {K : PySem.W.Frag} {mg : Str → Option Value} {base : Heap} {k : Nat} {f : Addr} (T : Tx K mg)    (cdv : Value) (A : Around) (out : List Env) (st : Shared) (H : Hp) (E : XK)
    (hr : Room k (A.deeper (PyProof.Rows.envOfC "is_tick" (defScope s_is_tick) st.heap.objs.size f cdv))) (hgd : (A.deeper (PyProof.Rows.envOfC "is_tick" (defScope s_is_tick) st.heap.objs.size f cdv)).guards = some []) :
    DSs (cxOf CX0 P w K mg base N_is_tick "is_tick" (defScope s_is_tick) f cdv A out st H E).nox (defBody s_is_tick) (r_is_tick) := by
  have SC := sc_is_tick
  have hu := hu_of hr
  have hu64 := hr.units
  have hu70 := hu70_of hr
  exact (ds_cons (ds_while PassesOwn.never (dt_cmp o_in (de_ixA (dv 0) de_int) (de_tup (da_cons de_str (da_cons de_str da_nil))) rfl)
  (ds_one (ds_set (i := 0) SC.nd rfl (by first | exact Or.inl rfl | exact Or.inr rfl) (de_ixA (dv 0) de_int))))
  (ds_one (ds_ret (de_cmp (o_eq hu64) (dv 0) (de_glob rfl T.c_TICK) (nomark _)))))

theorem d_is_tick {P : Program} {w : World} {K : PySem.W.Frag} {mg : Str → Option Value} {base : Heap} {k : Nat} {f : Addr} {fd : FuncData} {sp : DSp} (T : Tx K mg)   
    (F : FunD K "is_tick" "is_tick" (defArgs s_is_tick) (defBody s_is_tick) (defScope s_is_tick) [] [] f fd) (len : ∀ ds G Q E, sp ds G Q E → ds.length = 1)
    (ok : ∀ ds G Q E, sp ds G Q E → (r_is_tick) { nx := fun _ G' => Q .non G', rt := Q } (startD 1 ds) G) : DFn P w K mg base (k + 1) f fd P_is_tick sp :=
  dfn_of F sc_is_tick len (b_is_tick T) ok

theorem k_is_tick {P : Program} {w : World} {K : PySem.W.Frag} {mg : Str → Option Value} {base : Heap} {k : Nat} {f : Addr} {fd : FuncData} {sp : DSp} (T : Tx K mg)   
    (F : FunD K "is_tick" "is_tick" (defArgs s_is_tick) (defBody s_is_tick) (defScope s_is_tick) [] [] f fd) (hm : mg "is_tick" = some (.ref f)) (len : ∀ ds G Q E, sp ds G Q E → ds.length = 1)
    (ok : ∀ ds G Q E, sp ds G Q E → (r_is_tick) { nx := fun _ G' => Q .non G', rt := Q } (startD 1 ds) G) : Callee P w K mg base (k + 1) "is_tick" P_is_tick sp :=
  callee_of F hm (d_is_tick T F len ok) (fun _ _ _ _ _ _ us hl => match us, hl with | [_], _ => rfl) (fun _ _ _ _ _ _ us hl => match us, hl with | [_], _ => rfl)

abbrev N_states_of : List Str := ["work", "begin", "known", "waiting", "done", "left", "sign", "later", "state"]
abbrev P_states_of : List Str := ["work"]

theorem sc_states_of : FnScope N_states_of P_states_of (defScope s_states_of) := ⟨rfl, rfl, rfl, by decide +kernel, rfl, by decide +kernel, by decide +kernel⟩

theorem b_states_of {P : Program} {w : World} {K : PySem.W.Frag} {mg : Str → Option Value} {base : Heap} {k : Nat} {f : Addr} (T : Tx K mg) {sp_steps_of : DSp} {sp_is_tick : DSp} {sp_tidy : DSp} (C_steps_of : Callee P w K mg base k "steps_of" P_steps_of sp_steps_of) (C_is_tick : Callee P w K mg base k "is_tick" P_is_tick sp_is_tick) (C_tidy : Callee P w K mg base k "tidy" P_tidy sp_tidy)  (cdv : Value) (A : Around) (out : List Env) (st : Shared) (H : Hp) (E : XK)
    (hr : Room k (A.deeper (PyProof.Rows.envOfC "states_of" (defScope s_states_of) st.heap.objs.size f cdv))) (hgd : (A.deeper (PyProof.Rows.envOfC "states_of" (defScope s_states_of) st.heap.objs.size f cdv)).guards = some []) :
    DSs (cxOf CX0 P w K mg base N_states_of "states_of" (defScope s_states_of) f cdv A out st H E).nox (defBody s_states_of) (r_states_of sp_steps_of sp_is_tick sp_tidy) := by
  have SC := sc_states_of
  have hu := hu_of hr
  have hu64 := hr.units
  have hu70 := hu70_of hr
  exact (ds_cons (ds_set (i := 1) SC.nd rfl (by first | exact Or.inl rfl | exact Or.inr rfl) (de_tup (da_cons de_int (da_cons (dc C_tidy hr hgd rfl (da_cons (dv 0) da_nil)) da_nil))))
  (ds_cons (ds_set (i := 2) SC.nd rfl (by first | exact Or.inl rfl | exact Or.inr rfl) (de_disp (dps_cons (de_callB (c_repr hgd hu70) rfl T.m_repr (by decide +kernel) (da_cons (dv 1) da_nil)) (dv 1) dps_nil)))
  (ds_cons (ds_set (i := 3) SC.nd rfl (by first | exact Or.inl rfl | exact Or.inr rfl) (de_lst (da_cons (dv 1) da_nil)))
  (ds_cons (ds_while PassesOwn.never (dt_cmp (o_ne hu64) (dv 3) (de_frz (de_lst da_nil)) (nomark _))
  (ds_cons (ds_asg (de_pop (dv 3)) (dg_tup rfl (dgs_cons (dg_name (i := 4) SC.nd rfl (by first | exact Or.inl rfl | exact Or.inr rfl)) (dgs_cons (dg_name (i := 5) SC.nd rfl (by first | exact Or.inl rfl | exact Or.inr rfl)) dgs_nil))))
  (ds_one (ds_for PassesOwn.never rfl (di_seq (dc C_steps_of hr hgd rfl (da_cons (dv 5) da_nil))) (dg_tup rfl (dgs_cons (dg_name (i := 6) SC.nd rfl (by first | exact Or.inl rfl | exact Or.inr rfl)) (dgs_cons (dg_name (i := 7) SC.nd rfl (by first | exact Or.inl rfl | exact Or.inr rfl)) dgs_nil)))
  (ds_cons (ds_set (i := 8) SC.nd rfl (by first | exact Or.inl rfl | exact Or.inr rfl) (de_tup (da_cons (de_op o_add (dv 4) (de_callTy c_int rfl T.m_int (by decide +kernel) (da_cons (dc C_is_tick hr hgd rfl (da_cons (dv 6) da_nil)) da_nil))) (da_cons (dv 7) da_nil))))
  (ds_one (ds_if (dt_din hu (.inr ⟨rfl, rfl⟩) (de_callB (c_repr hgd hu70) rfl T.m_repr (by decide +kernel) (da_cons (dv 8) da_nil)) (dv 2) rfl)
  (ds_cons (ds_asg (dv 8) (dg_sub (dv 2) (de_callB (c_repr hgd hu70) rfl T.m_repr (by decide +kernel) (da_cons (dv 8) da_nil)) (set_dct hu)))
  (ds_one (ds_expr (de_append (dv 3) (dv 8)))))
  ds_nil)))))))
  (ds_one (ds_ret (de_callTy c_tuple rfl T.m_tuple (by decide +kernel) (da_cons (de_frz (de_callB (c_sortD hu70) rfl T.m_sorted (by decide +kernel) (da_cons (de_frz (de_lsV rfl rfl T.m_list (dv 2))) da_nil))) da_nil))))))))

theorem d_states_of {P : Program} {w : World} {K : PySem.W.Frag} {mg : Str → Option Value} {base : Heap} {k : Nat} {f : Addr} {fd : FuncData} {sp : DSp} (T : Tx K mg) {sp_steps_of : DSp} {sp_is_tick : DSp} {sp_tidy : DSp} (C_steps_of : Callee P w K mg base k "steps_of" P_steps_of sp_steps_of) (C_is_tick : Callee P w K mg base k "is_tick" P_is_tick sp_is_tick) (C_tidy : Callee P w K mg base k "tidy" P_tidy sp_tidy) 
    (F : FunD K "states_of" "states_of" (defArgs s_states_of) (defBody s_states_of) (defScope s_states_of) [] [] f fd) (len : ∀ ds G Q E, sp ds G Q E → ds.length = 1)
    (ok : ∀ ds G Q E, sp ds G Q E → (r_states_of sp_steps_of sp_is_tick sp_tidy) { nx := fun _ G' => Q .non G', rt := Q } (startD 9 ds) G) : DFn P w K mg base (k + 1) f fd P_states_of sp :=
  dfn_of F sc_states_of len (b_states_of T C_steps_of C_is_tick C_tidy) ok

theorem k_states_of {P : Program} {w : World} {K : PySem.W.Frag} {mg : Str → Option Value} {base : Heap} {k : Nat} {f : Addr} {fd : FuncData} {sp : DSp} (T : Tx K mg) {sp_steps_of : DSp} {sp_is_tick : DSp} {sp_tidy : DSp} (C_steps_of : Callee P w K mg base k "steps_of" P_steps_of sp_steps_of) (C_is_tick : Callee P w K mg base k "is_tick" P_is_tick sp_is_tick) (C_tidy : Callee P w K mg base k "tidy" P_tidy sp_tidy) 
    (F : FunD K "states_of" "states_of" (defArgs s_states_of) (defBody s_states_of) (defScope s_states_of) [] [] f fd) (hm : mg "states_of" = some (.ref f)) (len : ∀ ds G Q E, sp ds G Q E → ds.length = 1)
    (ok : ∀ ds G Q E, sp ds G Q E → (r_states_of sp_steps_of sp_is_tick sp_tidy) { nx := fun _ G' => Q .non G', rt := Q } (startD 9 ds) G) : Callee P w K mg base (k + 1) "states_of" P_states_of sp :=
  callee_of F hm (d_states_of T C_steps_of C_is_tick C_tidy F len ok) (fun _ _ _ _ _ _ us hl => match us, hl with | [_], _ => rfl) (fun _ _ _ _ _ _ us hl => match us, hl with | [_], _ => rfl)

abbrev N_law_feed : List Str := ["_law_script"]
abbrev P_law_feed : List Str := ["_law_script"]

theorem sc_law_feed : FnScope N_law_feed P_law_feed (defScope s_law_feed) := ⟨rfl, rfl, rfl, by decide +kernel, rfl, by decide +kernel, by decide +kernel⟩

theorem b_law_feed {P : Program} {w : World} {K : PySem.W.Frag} {mg : Str → Option Value} {base : Heap} {k : Nat} {f : Addr} (T : Tx K mg)    (cdv : Value) (A : Around) (out : List Env) (st : Shared) (H : Hp) (E : XK)
    (hr : Room k (A.deeper (PyProof.Rows.envOfC "_law_feed" (defScope s_law_feed) st.heap.objs.size f cdv))) (hgd : (A.deeper (PyProof.Rows.envOfC "_law_feed" (defScope s_law_feed) st.heap.objs.size f cdv)).guards = some []) :
    DSs (cxOf CX0 P w K mg base N_law_feed "_law_feed" (defScope s_law_feed) f cdv A out st H E).nox (defBody s_law_feed) (r_law_feed) := by
  have SC := sc_law_feed
  have hu := hu_of hr
  have hu64 := hr.units
  have hu70 := hu70_of hr
  exact (ds_one (ds_ret (de_disp (dps_cons de_str (de_frz (de_callTy c_list rfl T.m_list (by decide +kernel) (da_cons (de_frz (de_slice (dv 0) do_none (do_some de_int))) da_nil))) (dps_cons de_str de_int (dps_cons de_str de_int (dps_cons de_str de_int dps_nil)))))))

theorem d_law_feed {P : Program} {w : World} {K : PySem.W.Frag} {mg : Str → Option Value} {base : Heap} {k : Nat} {f : Addr} {fd : FuncData} {sp : DSp} (T : Tx K mg)   
    (F : FunD K "_law_feed" "_law_feed" (defArgs s_law_feed) (defBody s_law_feed) (defScope s_law_feed) [] [] f fd) (len : ∀ ds G Q E, sp ds G Q E → ds.length = 1)
    (ok : ∀ ds G Q E, sp ds G Q E → (r_law_feed) { nx := fun _ G' => Q .non G', rt := Q } (startD 1 ds) G) : DFn P w K mg base (k + 1) f fd P_law_feed sp :=
  dfn_of F sc_law_feed len (b_law_feed T) ok

theorem k_law_feed {P : Program} {w : World} {K : PySem.W.Frag} {mg : Str → Option Value} {base : Heap} {k : Nat} {f : Addr} {fd : FuncData} {sp : DSp} (T : Tx K mg)   
    (F : FunD K "_law_feed" "_law_feed" (defArgs s_law_feed) (defBody s_law_feed) (defScope s_law_feed) [] [] f fd) (hm : mg "_law_feed" = some (.ref f)) (len : ∀ ds G Q E, sp ds G Q E → ds.length = 1)
    (ok : ∀ ds G Q E, sp ds G Q E → (r_law_feed) { nx := fun _ G' => Q .non G', rt := Q } (startD 1 ds) G) : Callee P w K mg base (k + 1) "_law_feed" P_law_feed sp :=
  callee_of F hm (d_law_feed T F len ok) (fun _ _ _ _ _ _ us hl => match us, hl with | [_], _ => rfl) (fun _ _ _ _ _ _ us hl => match us, hl with | [_], _ => rfl)

abbrev N_law_draw : List Str := ["_law_feed_here", "_law_many", "_law_digit", "_law_spot", "_law_cell", "_law_mixed"]
abbrev P_law_draw : List Str := ["_law_feed_here", "_law_many"]

theorem sc_law_draw : FnScope N_law_draw P_law_draw (defScope s_law_draw) := ⟨rfl, rfl, rfl, by decide +kernel, rfl, by decide +kernel, by decide +kernel⟩

theorem b_law_draw {P : Program} {w : World} {K : PySem.W.Frag} {mg : Str → Option Value} {base : Heap} {k : Nat} {f : Addr} (T : Tx K mg)    (cdv : Value) (A : Around) (out : List Env) (st : Shared) (H : Hp) (E : XK)
    (hr : Room k (A.deeper (PyProof.Rows.envOfC "_law_draw" (defScope s_law_draw) st.heap.objs.size f cdv))) (hgd : (A.deeper (PyProof.Rows.envOfC "_law_draw" (defScope s_law_draw) st.heap.objs.size f cdv)).guards = some []) :
    DSs (cxOf CX0 P w K mg base N_law_draw "_law_draw" (defScope s_law_draw) f cdv A out st H E).nox (defBody s_law_draw) (r_law_draw) := by
  have SC := sc_law_draw
  have hu := hu_of hr
  have hu64 := hr.units
  have hu70 := hu70_of hr
  exact (ds_cons (ds_asg (de_op o_add (de_dget hu (dv 0) de_str) de_int) (dg_sub (dv 0) de_str (set_dct hu)))
  (ds_cons (ds_if (dt_cmp (o_eq hu64) (de_dget hu (dv 0) de_str) (de_frz (de_lst da_nil)) (nomark _))
  (ds_one (ds_ret (de_op o_mod (de_callTy c_int rfl T.m_int (by decide +kernel) (da_cons (de_op o_fdiv (de_op o_mul (de_dget hu (dv 0) de_str) de_int) de_int) da_nil)) (dv 1))))
  ds_nil)
  (ds_cons (ds_if (dt_cmp o_gt (de_dget hu (dv 0) de_str) de_int (nomark _))
  (ds_cons (ds_set (i := 2) SC.nd rfl (by first | exact Or.inl rfl | exact Or.inr rfl) (de_op o_mod (de_callTy c_int rfl T.m_int (by decide +kernel) (da_cons (de_dget hu (dv 0) de_str) da_nil)) (dv 1)))
  (ds_cons (ds_asg (de_op o_fdiv (de_dget hu (dv 0) de_str) (dv 1)) (dg_sub (dv 0) de_str (set_dct hu)))
  (ds_one (ds_ret (dv 2)))))
  ds_nil)
  (ds_cons (ds_set (i := 3) SC.nd rfl (by first | exact Or.inl rfl | exact Or.inr rfl) (de_dget hu (dv 0) de_str))
  (ds_cons (ds_asg (de_op o_add (dv 3) de_int) (dg_sub (dv 0) de_str (set_dct hu)))
  (ds_cons (ds_set (i := 4) SC.nd rfl (by first | exact Or.inl rfl | exact Or.inr rfl) (de_ix (de_dget hu (dv 0) de_str) (de_op o_mod (de_callTy c_int rfl T.m_int (by decide +kernel) (da_cons (dv 3) da_nil)) (de_callB c_len rfl T.m_len PySem.boot_len (da_cons (de_dget hu (dv 0) de_str) da_nil)))))
  (ds_cons (ds_if (dt_w (dw_and (dt_cmp o_ge (dv 4) (de_op o_pow de_int de_int) (nomark _)) (dw_and1 (dt_cmp o_lt (dv 3) (de_callB c_len rfl T.m_len PySem.boot_len (da_cons (de_dget hu (dv 0) de_str) da_nil)) (nomark _)))))
  (ds_cons (ds_asg (de_op o_fdiv (dv 4) (dv 1)) (dg_sub (dv 0) de_str (set_dct hu)))
  (ds_one (ds_ret (de_op o_mod (de_callTy c_int rfl T.m_int (by decide +kernel) (da_cons (dv 4) da_nil)) (dv 1)))))
  ds_nil)
  (ds_cons (ds_set (i := 5) SC.nd rfl (by first | exact Or.inl rfl | exact Or.inr rfl) (de_op o_mod (de_callTy c_int rfl T.m_int (by decide +kernel) (da_cons (de_op o_add (de_op o_add (de_op o_mod (de_callTy c_int rfl T.m_int (by decide +kernel) (da_cons (dv 4) da_nil)) de_int) (de_op o_mul de_int (de_dget hu (dv 0) de_str))) de_int) da_nil)) de_int))
  (ds_cons (ds_set (i := 5) SC.nd rfl (by first | exact Or.inl rfl | exact Or.inr rfl) (de_op o_mod (de_callTy c_int rfl T.m_int (by decide +kernel) (da_cons (de_op o_add (de_op o_add (de_op o_pow (dv 5) de_int) (de_op o_mul de_int (de_dget hu (dv 0) de_str))) de_int) da_nil)) de_int))
  (ds_one (ds_ret (de_op o_mod (de_callTy c_int rfl T.m_int (by decide +kernel) (da_cons (de_op o_fdiv (de_op o_mod (de_callTy c_int rfl T.m_int (by decide +kernel) (da_cons (de_op o_add (de_op o_pow (dv 5) de_int) (de_op o_mul de_int (dv 5))) da_nil)) de_int) de_int) da_nil)) (dv 1)))))))))))))

theorem d_law_draw {P : Program} {w : World} {K : PySem.W.Frag} {mg : Str → Option Value} {base : Heap} {k : Nat} {f : Addr} {fd : FuncData} {sp : DSp} (T : Tx K mg)   
    (F : FunD K "_law_draw" "_law_draw" (defArgs s_law_draw) (defBody s_law_draw) (defScope s_law_draw) [] [] f fd) (len : ∀ ds G Q E, sp ds G Q E → ds.length = 2)
    (ok : ∀ ds G Q E, sp ds G Q E → (r_law_draw) { nx := fun _ G' => Q .non G', rt := Q } (startD 6 ds) G) : DFn P w K mg base (k + 1) f fd P_law_draw sp :=
  dfn_of F sc_law_draw len (b_law_draw T) ok

theorem k_law_draw {P : Program} {w : World} {K : PySem.W.Frag} {mg : Str → Option Value} {base : Heap} {k : Nat} {f : Addr} {fd : FuncData} {sp : DSp} (T : Tx K mg)   
    (F : FunD K "_law_draw" "_law_draw" (defArgs s_law_draw) (defBody s_law_draw) (defScope s_law_draw) [] [] f fd) (hm : mg "_law_draw" = some (.ref f)) (len : ∀ ds G Q E, sp ds G Q E → ds.length = 2)
    (ok : ∀ ds G Q E, sp ds G Q E → (r_law_draw) { nx := fun _ G' => Q .non G', rt := Q } (startD 6 ds) G) : Callee P w K mg base (k + 1) "_law_draw" P_law_draw sp :=
  callee_of F hm (d_law_draw T F len ok) (fun _ _ _ _ _ _ us hl => match us, hl with | [_, _], _ => rfl) (fun _ _ _ _ _ _ us hl => match us, hl with | [_, _], _ => rfl)

abbrev N_law_tidy : List Str := ["_law_job_here", "_law_one", "_law_other", "_law_found", "_law_part", "_law_own"]
abbrev P_law_tidy : List Str := ["_law_job_here"]

theorem sc_law_tidy : FnScope N_law_tidy P_law_tidy (defScope s_law_tidy) := ⟨rfl, rfl, rfl, by decide +kernel, rfl, by decide +kernel, by decide +kernel⟩

theorem b_law_tidy {P : Program} {w : World} {K : PySem.W.Frag} {mg : Str → Option Value} {base : Heap} {k : Nat} {f : Addr} (T : Tx K mg) {sp_law_tidy : DSp} (C_law_tidy : Callee P w K mg base k "_law_tidy" P_law_tidy sp_law_tidy)  (cdv : Value) (A : Around) (out : List Env) (st : Shared) (H : Hp) (E : XK)
    (hr : Room k (A.deeper (PyProof.Rows.envOfC "_law_tidy" (defScope s_law_tidy) st.heap.objs.size f cdv))) (hgd : (A.deeper (PyProof.Rows.envOfC "_law_tidy" (defScope s_law_tidy) st.heap.objs.size f cdv)).guards = some []) :
    DSs (cxOf CX0 P w K mg base N_law_tidy "_law_tidy" (defScope s_law_tidy) f cdv A out st H E).nox (defBody s_law_tidy) (r_law_tidy sp_law_tidy) := by
  have SC := sc_law_tidy
  have hu := hu_of hr
  have hu64 := hr.units
  have hu70 := hu70_of hr
  exact (ds_cons (ds_if (dt_cmp (o_eq hu64) (de_ix (dv 0) de_int) de_str (nomark _))
  (ds_cons (ds_par (i := 1) (j := 2) rfl SC.nd rfl rfl (by decide) rfl rfl (da_cons (dc C_law_tidy hr hgd rfl (da_cons (de_ix (dv 0) de_int) da_nil)) (da_cons (dc C_law_tidy hr hgd rfl (da_cons (de_ix (dv 0) de_int) da_nil)) da_nil)) rfl)
  (ds_one (ds_ret (de_if (dt_w (dw_and (dt_cmp (o_eq hu64) (dv 1) (de_tup (da_cons de_str (da_cons (de_tup da_nil) da_nil))) (nomark _)) (dw_and1 (dt_cmp (o_eq hu64) (dv 2) (de_tup (da_cons de_str (da_cons (de_tup da_nil) da_nil))) (nomark _))))) (de_tup (da_cons de_str (da_cons (de_tup da_nil) da_nil))) (de_tup (da_cons de_str (da_cons (dv 1) (da_cons (dv 2) da_nil))))))))
  ds_nil)
  (ds_cons (ds_if (dt_cmp (o_ne hu64) (de_ix (dv 0) de_int) de_str (nomark _))
  (ds_one (ds_ret (dv 0)))
  ds_nil)
  (ds_cons (ds_set (i := 3) SC.nd rfl (by first | exact Or.inl rfl | exact Or.inr rfl) (de_lst da_nil))
  (ds_cons (ds_for PassesOwn.never rfl (di_seq (de_ix (dv 0) de_int)) (dg_name (i := 4) SC.nd rfl (by first | exact Or.inl rfl | exact Or.inr rfl))
  (ds_cons (ds_set (i := 5) SC.nd rfl (by first | exact Or.inl rfl | exact Or.inr rfl) (dc C_law_tidy hr hgd rfl (da_cons (dv 4) da_nil)))
  (ds_one (ds_expr (de_extend (dv 3) (de_if (dt_cmp (o_eq hu64) (de_ix (dv 5) de_int) de_str (nomark _)) (de_frz (de_callTy c_list rfl T.m_list (by decide +kernel) (da_cons (de_ix (dv 5) de_int) da_nil))) (de_frz (de_lst (da_cons (dv 5) da_nil)))))))))
  (ds_one (ds_ret (de_if (dt_cmp (o_eq hu64) (de_callB c_len rfl T.m_len PySem.boot_len (da_cons (dv 3) da_nil)) de_int (nomark _)) (de_ix (dv 3) de_int) (de_tup (da_cons de_str (da_cons (de_callTy c_tuple rfl T.m_tuple (by decide +kernel) (da_cons (dv 3) da_nil)) da_nil))))))))))

theorem d_law_tidy {P : Program} {w : World} {K : PySem.W.Frag} {mg : Str → Option Value} {base : Heap} {k : Nat} {f : Addr} {fd : FuncData} {sp : DSp} (T : Tx K mg) {sp_law_tidy : DSp} (C_law_tidy : Callee P w K mg base k "_law_tidy" P_law_tidy sp_law_tidy) 
    (F : FunD K "_law_tidy" "_law_tidy" (defArgs s_law_tidy) (defBody s_law_tidy) (defScope s_law_tidy) [] [] f fd) (len : ∀ ds G Q E, sp ds G Q E → ds.length = 1)
    (ok : ∀ ds G Q E, sp ds G Q E → (r_law_tidy sp_law_tidy) { nx := fun _ G' => Q .non G', rt := Q } (startD 6 ds) G) : DFn P w K mg base (k + 1) f fd P_law_tidy sp :=
  dfn_of F sc_law_tidy len (b_law_tidy T C_law_tidy) ok

theorem k_law_tidy {P : Program} {w : World} {K : PySem.W.Frag} {mg : Str → Option Value} {base : Heap} {k : Nat} {f : Addr} {fd : FuncData} {sp : DSp} (T : Tx K mg) {sp_law_tidy : DSp} (C_law_tidy : Callee P w K mg base k "_law_tidy" P_law_tidy sp_law_tidy) 
    (F : FunD K "_law_tidy" "_law_tidy" (defArgs s_law_tidy) (defBody s_law_tidy) (defScope s_law_tidy) [] [] f fd) (hm : mg "_law_tidy" = some (.ref f)) (len : ∀ ds G Q E, sp ds G Q E → ds.length = 1)
    (ok : ∀ ds G Q E, sp ds G Q E → (r_law_tidy sp_law_tidy) { nx := fun _ G' => Q .non G', rt := Q } (startD 6 ds) G) : Callee P w K mg base (k + 1) "_law_tidy" P_law_tidy sp :=
  callee_of F hm (d_law_tidy T C_law_tidy F len ok) (fun _ _ _ _ _ _ us hl => match us, hl with | [_], _ => rfl) (fun _ _ _ _ _ _ us hl => match us, hl with | [_], _ => rfl)

theorem z_law_tidy {P : Program} {w : World} {K : PySem.W.Frag} {mg : Str → Option Value} {base : Heap} {f : Addr} {fd : FuncData} {sp : DSp} (F : FunD K "_law_tidy" "_law_tidy" (defArgs s_law_tidy) (defBody s_law_tidy) (defScope s_law_tidy) [] [] f fd) (hm : mg "_law_tidy" = some (.ref f)) (h : ∀ ds G Q E, ¬ sp ds G Q E) : Callee P w K mg base 0 "_law_tidy" P_law_tidy sp :=
  callee0 F hm h (fun _ _ _ _ _ _ us hl => match us, hl with | [_], _ => rfl) (fun _ _ _ _ _ _ us hl => match us, hl with | [_], _ => rfl)

abbrev N_law_next : List Str := ["_law_job_here", "_law_word", "_law_n", "_law_found", "_law_i", "_law_one"]
abbrev P_law_next : List Str := ["_law_job_here"]

theorem sc_law_next : FnScope N_law_next P_law_next (defScope s_law_next) := ⟨rfl, rfl, rfl, by decide +kernel, rfl, by decide +kernel, by decide +kernel⟩

theorem b_law_next {P : Program} {w : World} {K : PySem.W.Frag} {mg : Str → Option Value} {base : Heap} {k : Nat} {f : Addr} (T : Tx K mg) {sp_law_next : DSp} (C_law_next : Callee P w K mg base k "_law_next" P_law_next sp_law_next)  (cdv : Value) (A : Around) (out : List Env) (st : Shared) (H : Hp) (E : XK)
    (hr : Room k (A.deeper (PyProof.Rows.envOfC "_law_next" (defScope s_law_next) st.heap.objs.size f cdv))) (hgd : (A.deeper (PyProof.Rows.envOfC "_law_next" (defScope s_law_next) st.heap.objs.size f cdv)).guards = some []) :
    DSs (cxOf CX0 P w K mg base N_law_next "_law_next" (defScope s_law_next) f cdv A out st H E).nox (defBody s_law_next) (r_law_next sp_law_next) := by
  have SC := sc_law_next
  have hu := hu_of hr
  have hu64 := hr.units
  have hu70 := hu70_of hr
  exact (ds_cons (ds_set (i := 1) SC.nd rfl (by first | exact Or.inl rfl | exact Or.inr rfl) (de_ix (dv 0) de_int))
  (ds_cons (ds_if (dt_cmp (o_eq hu64) (dv 1) de_str (nomark _))
  (ds_one (ds_ret (de_frz (de_lst (da_cons de_str da_nil)))))
  ds_nil)
  (ds_cons (ds_if (dt_cmp (o_eq hu64) (dv 1) de_str (nomark _))
  (ds_one (ds_ret (de_if (dt_cmp (o_ne hu64) (de_ix (dv 0) de_int) (de_tup da_nil) (nomark _)) (dc C_law_next hr hgd rfl (da_cons (de_ix (de_ix (dv 0) de_int) de_int) da_nil)) (de_frz (de_lst da_nil)))))
  ds_nil)
  (ds_cons (ds_if (dt_w (dw_and (dt_cmp o_in (dv 1) (de_tup (da_cons de_str (da_cons de_str da_nil))) rfl) (dw_and1 (dt_tru (de_ix (dv 0) de_int)))))
  (ds_one (ds_ret (de_frz (de_lc (own := [("_law_n", 2)]) (ct := (.one 2)) rfl SC.nd (di_range2 rfl T.m_range (da_cons (de_ix (dv 0) de_int) (da_cons (de_op o_add (de_ix (dv 0) de_int) de_int) da_nil))) (blkOk_by (by show blkC N_law_next (defScope s_law_next) _ _ = true; decide +kernel)) (by decide) (fun _ _ _ _ _ => pg_name (i := 2) SC.nd rfl (Or.inl rfl)) (fun _ _ _ _ _ => dts_nil) (fun _ _ _ _ _ => (de_tup (da_cons de_str (da_cons (dv 2) da_nil))))))))
  ds_nil)
  (ds_cons (ds_if (dt_cmp o_in (dv 1) (de_tup (da_cons de_str (da_cons de_str da_nil))) rfl)
  (ds_cons (ds_set (i := 3) SC.nd rfl (by first | exact Or.inl rfl | exact Or.inr rfl) (de_frz (de_op o_mul (de_frz (de_lst (da_cons (de_dget hu (de_disp (dps_cons de_str de_str (dps_cons de_str de_str dps_nil))) (dv 1)) da_nil))) (de_callTy c_int rfl T.m_int (by decide +kernel) (da_cons (de_cmp o_gt (de_ix (dv 0) de_int) de_int (nomark _)) da_nil)))))
  (ds_one (ds_ret (de_frz (de_op o_add (dv 3) (de_frz (de_op o_mul (de_frz (de_lst (da_cons de_str da_nil))) (de_callTy c_int rfl T.m_int (by decide +kernel) (da_cons (de_cmp (o_eq hu64) (de_ix (dv 0) de_int) de_int (nomark _)) da_nil)))))))))
  ds_nil)
  (ds_cons (ds_if (dt_cmp (o_eq hu64) (dv 1) de_str (nomark _))
  (ds_one (ds_ret (de_frz (de_lc (own := [("_law_i", 4)]) (ct := (.one 4)) rfl SC.nd (di_range1 rfl T.m_range (da_cons (de_callB c_len rfl T.m_len PySem.boot_len (da_cons (de_ix (dv 0) de_int) da_nil)) da_nil)) (blkOk_by (by show blkC N_law_next (defScope s_law_next) _ _ = true; decide +kernel)) (by decide) (fun _ _ _ _ _ => pg_name (i := 4) SC.nd rfl (Or.inl rfl)) (fun _ _ _ _ _ => dts_nil) (fun _ _ _ _ _ => (de_tup (da_cons de_str (da_cons (dv 4) da_nil))))))))
  ds_nil)
  (ds_one (ds_ret (de_frz (de_op o_add (de_frz (de_lc (own := [("_law_one", 5)]) (ct := (.one 5)) rfl SC.nd (di_seq (dc C_law_next hr hgd rfl (da_cons (de_ix (dv 0) de_int) da_nil))) (blkOk_by (by show blkC N_law_next (defScope s_law_next) _ _ = true; decide +kernel)) (by decide) (fun _ _ _ _ _ => pg_name (i := 5) SC.nd rfl (Or.inl rfl)) (fun _ _ _ _ _ => dts_nil) (fun _ _ _ _ _ => (de_tup (da_cons de_str (da_cons (dv 5) da_nil)))))) (de_frz (de_lc (own := [("_law_one", 5)]) (ct := (.one 5)) rfl SC.nd (di_seq (dc C_law_next hr hgd rfl (da_cons (de_ix (dv 0) de_int) da_nil))) (blkOk_by (by show blkC N_law_next (defScope s_law_next) _ _ = true; decide +kernel)) (by decide) (fun _ _ _ _ _ => pg_name (i := 5) SC.nd rfl (Or.inl rfl)) (fun _ _ _ _ _ => dts_nil) (fun _ _ _ _ _ => (de_tup (da_cons de_str (da_cons (dv 5) da_nil))))))))))))))))

theorem d_law_next {P : Program} {w : World} {K : PySem.W.Frag} {mg : Str → Option Value} {base : Heap} {k : Nat} {f : Addr} {fd : FuncData} {sp : DSp} (T : Tx K mg) {sp_law_next : DSp} (C_law_next : Callee P w K mg base k "_law_next" P_law_next sp_law_next) 
    (F : FunD K "_law_next" "_law_next" (defArgs s_law_next) (defBody s_law_next) (defScope s_law_next) [] [] f fd) (len : ∀ ds G Q E, sp ds G Q E → ds.length = 1)
    (ok : ∀ ds G Q E, sp ds G Q E → (r_law_next sp_law_next) { nx := fun _ G' => Q .non G', rt := Q } (startD 6 ds) G) : DFn P w K mg base (k + 1) f fd P_law_next sp :=
  dfn_of F sc_law_next len (b_law_next T C_law_next) ok

theorem k_law_next {P : Program} {w : World} {K : PySem.W.Frag} {mg : Str → Option Value} {base : Heap} {k : Nat} {f : Addr} {fd : FuncData} {sp : DSp} (T : Tx K mg) {sp_law_next : DSp} (C_law_next : Callee P w K mg base k "_law_next" P_law_next sp_law_next) 
    (F : FunD K "_law_next" "_law_next" (defArgs s_law_next) (defBody s_law_next) (defScope s_law_next) [] [] f fd) (hm : mg "_law_next" = some (.ref f)) (len : ∀ ds G Q E, sp ds G Q E → ds.length = 1)
    (ok : ∀ ds G Q E, sp ds G Q E → (r_law_next sp_law_next) { nx := fun _ G' => Q .non G', rt := Q } (startD 6 ds) G) : Callee P w K mg base (k + 1) "_law_next" P_law_next sp :=
  callee_of F hm (d_law_next T C_law_next F len ok) (fun _ _ _ _ _ _ us hl => match us, hl with | [_], _ => rfl) (fun _ _ _ _ _ _ us hl => match us, hl with | [_], _ => rfl)

theorem z_law_next {P : Program} {w : World} {K : PySem.W.Frag} {mg : Str → Option Value} {base : Heap} {f : Addr} {fd : FuncData} {sp : DSp} (F : FunD K "_law_next" "_law_next" (defArgs s_law_next) (defBody s_law_next) (defScope s_law_next) [] [] f fd) (hm : mg "_law_next" = some (.ref f)) (h : ∀ ds G Q E, ¬ sp ds G Q E) : Callee P w K mg base 0 "_law_next" P_law_next sp :=
  callee0 F hm h (fun _ _ _ _ _ _ us hl => match us, hl with | [_], _ => rfl) (fun _ _ _ _ _ _ us hl => match us, hl with | [_], _ => rfl)

abbrev N_law_behind : List Str := ["_law_job_here", "_law_mark", "_law_word", "_law_many"]
abbrev P_law_behind : List Str := ["_law_job_here", "_law_mark"]

theorem sc_law_behind : FnScope N_law_behind P_law_behind (defScope s_law_behind) := ⟨rfl, rfl, rfl, by decide +kernel, rfl, by decide +kernel, by decide +kernel⟩

theorem b_law_behind {P : Program} {w : World} {K : PySem.W.Frag} {mg : Str → Option Value} {base : Heap} {k : Nat} {f : Addr} (T : Tx K mg) {sp_law_behind : DSp} (C_law_behind : Callee P w K mg base k "_law_behind" P_law_behind sp_law_behind)  (cdv : Value) (A : Around) (out : List Env) (st : Shared) (H : Hp) (E : XK)
    (hr : Room k (A.deeper (PyProof.Rows.envOfC "_law_behind" (defScope s_law_behind) st.heap.objs.size f cdv))) (hgd : (A.deeper (PyProof.Rows.envOfC "_law_behind" (defScope s_law_behind) st.heap.objs.size f cdv)).guards = some []) :
    DSs (cxOf CX0 P w K mg base N_law_behind "_law_behind" (defScope s_law_behind) f cdv A out st H E).nox (defBody s_law_behind) (r_law_behind sp_law_behind) := by
  have SC := sc_law_behind
  have hu := hu_of hr
  have hu64 := hr.units
  have hu70 := hu70_of hr
  exact (ds_cons (ds_set (i := 2) SC.nd rfl (by first | exact Or.inl rfl | exact Or.inr rfl) (de_ix (dv 0) de_int))
  (ds_cons (ds_if (dt_cmp (o_eq hu64) (dv 2) de_str (nomark _))
  (ds_one (ds_ret (de_tup (da_cons de_str (da_cons (de_op o_add (de_tup (da_cons (dc C_law_behind hr hgd rfl (da_cons (de_ix (de_ix (dv 0) de_int) de_int) (da_cons (dv 1) da_nil))) da_nil)) (de_slice (de_ix (dv 0) de_int) (do_some de_int) do_none)) da_nil)))))
  ds_nil)
  (ds_cons (ds_if (dt_cmp (o_eq hu64) (dv 2) de_str (nomark _))
  (ds_cons (ds_if (dt_cmp (o_eq hu64) (de_ix (dv 1) de_int) de_str (nomark _))
  (ds_one (ds_ret (de_tup (da_cons de_str (da_cons (dc C_law_behind hr hgd rfl (da_cons (de_ix (dv 0) de_int) (da_cons (de_ix (dv 1) de_int) da_nil))) (da_cons (de_ix (dv 0) de_int) da_nil))))))
  ds_nil)
  (ds_one (ds_ret (de_tup (da_cons de_str (da_cons (de_ix (dv 0) de_int) (da_cons (dc C_law_behind hr hgd rfl (da_cons (de_ix (dv 0) de_int) (da_cons (de_ix (dv 1) de_int) da_nil))) da_nil)))))))
  ds_nil)
  (ds_cons (ds_if (dt_cmp (o_eq hu64) (dv 2) de_str (nomark _))
  (ds_one (ds_ret (de_ix (de_ix (dv 0) de_int) (de_ix (dv 1) de_int))))
  ds_nil)
  (ds_cons (ds_if (dt_cmp (o_eq hu64) (dv 1) de_str (nomark _))
  (ds_one (ds_ret (de_tup (da_cons de_str (da_cons (de_tup da_nil) da_nil)))))
  ds_nil)
  (ds_cons (ds_if (dt_w (dw_or (dt_cmp (o_eq hu64) (dv 2) de_str (nomark _)) (dw_or1 (dt_w (dw_and (dt_cmp (o_eq hu64) (dv 2) de_str (nomark _)) (dw_and1 (dt_tru (de_ix (dv 0) de_int))))))))
  (ds_cons (ds_set (i := 3) SC.nd rfl (by first | exact Or.inl rfl | exact Or.inr rfl) (de_if (dt_cmp (o_eq hu64) (dv 2) de_str (nomark _)) (de_op o_sub (de_ix (dv 0) de_int) de_int) (de_ix (dv 1) de_int)))
  (ds_one (ds_ret (de_if (dt_cmp o_gt (dv 3) de_int (nomark _)) (de_tup (da_cons de_str (da_cons (dv 3) da_nil))) (de_tup (da_cons de_str (da_cons (de_tup da_nil) da_nil)))))))
  ds_nil)
  (ds_cons (ds_if (dt_cmp (o_eq hu64) (dv 2) de_str (nomark _))
  (ds_one (ds_ret (de_tup (da_cons de_str (da_cons (de_callB (c_max2 rfl) rfl T.m_max (by decide +kernel) (da_cons de_int (da_cons (de_op o_sub (de_ix (dv 0) de_int) de_int) da_nil))) (da_cons (de_op o_sub (de_ix (dv 0) de_int) de_int) (da_cons de_bl da_nil)))))))
  ds_nil)
  (ds_cons (ds_if (dt_tru (de_ix (dv 0) de_int))
  (ds_one (ds_ret (de_tup (da_cons de_str (da_cons (de_op o_mul (de_tup (da_cons (de_ix (dv 0) de_int) da_nil)) (de_ix (dv 1) de_int)) da_nil)))))
  ds_nil)
  (ds_one (ds_ret (de_tup (da_cons de_str (da_cons (de_tup (da_cons (de_ix (dv 0) de_int) (da_cons (de_tup (da_cons de_str (da_cons (de_callB (c_max2 rfl) rfl T.m_max (by decide +kernel) (da_cons de_int (da_cons (de_op o_sub (de_ix (dv 0) de_int) de_int) da_nil))) (da_cons (de_op o_sub (de_ix (dv 0) de_int) de_int) (da_cons de_bl (da_cons (de_ix (dv 0) de_int) da_nil)))))) da_nil))) da_nil)))))))))))))

theorem d_law_behind {P : Program} {w : World} {K : PySem.W.Frag} {mg : Str → Option Value} {base : Heap} {k : Nat} {f : Addr} {fd : FuncData} {sp : DSp} (T : Tx K mg) {sp_law_behind : DSp} (C_law_behind : Callee P w K mg base k "_law_behind" P_law_behind sp_law_behind) 
    (F : FunD K "_law_behind" "_law_behind" (defArgs s_law_behind) (defBody s_law_behind) (defScope s_law_behind) [] [] f fd) (len : ∀ ds G Q E, sp ds G Q E → ds.length = 2)
    (ok : ∀ ds G Q E, sp ds G Q E → (r_law_behind sp_law_behind) { nx := fun _ G' => Q .non G', rt := Q } (startD 4 ds) G) : DFn P w K mg base (k + 1) f fd P_law_behind sp :=
  dfn_of F sc_law_behind len (b_law_behind T C_law_behind) ok

theorem k_law_behind {P : Program} {w : World} {K : PySem.W.Frag} {mg : Str → Option Value} {base : Heap} {k : Nat} {f : Addr} {fd : FuncData} {sp : DSp} (T : Tx K mg) {sp_law_behind : DSp} (C_law_behind : Callee P w K mg base k "_law_behind" P_law_behind sp_law_behind) 
    (F : FunD K "_law_behind" "_law_behind" (defArgs s_law_behind) (defBody s_law_behind) (defScope s_law_behind) [] [] f fd) (hm : mg "_law_behind" = some (.ref f)) (len : ∀ ds G Q E, sp ds G Q E → ds.length = 2)
    (ok : ∀ ds G Q E, sp ds G Q E → (r_law_behind sp_law_behind) { nx := fun _ G' => Q .non G', rt := Q } (startD 4 ds) G) : Callee P w K mg base (k + 1) "_law_behind" P_law_behind sp :=
  callee_of F hm (d_law_behind T C_law_behind F len ok) (fun _ _ _ _ _ _ us hl => match us, hl with | [_, _], _ => rfl) (fun _ _ _ _ _ _ us hl => match us, hl with | [_, _], _ => rfl)

theorem z_law_behind {P : Program} {w : World} {K : PySem.W.Frag} {mg : Str → Option Value} {base : Heap} {f : Addr} {fd : FuncData} {sp : DSp} (F : FunD K "_law_behind" "_law_behind" (defArgs s_law_behind) (defBody s_law_behind) (defScope s_law_behind) [] [] f fd) (hm : mg "_law_behind" = some (.ref f)) (h : ∀ ds G Q E, ¬ sp ds G Q E) : Callee P w K mg base 0 "_law_behind" P_law_behind sp :=
  callee0 F hm h (fun _ _ _ _ _ _ us hl => match us, hl with | [_, _], _ => rfl) (fun _ _ _ _ _ _ us hl => match us, hl with | [_, _], _ => rfl)

abbrev N_law_after : List Str := ["_law_job_here", "_law_mark"]
abbrev P_law_after : List Str := ["_law_job_here", "_law_mark"]

theorem sc_law_after : FnScope N_law_after P_law_after (defScope s_law_after) := ⟨rfl, rfl, rfl, by decide +kernel, rfl, by decide +kernel, by decide +kernel⟩

theorem b_law_after {P : Program} {w : World} {K : PySem.W.Frag} {mg : Str → Option Value} {base : Heap} {k : Nat} {f : Addr} (T : Tx K mg) {sp_law_tidy : DSp} {sp_law_behind : DSp} (C_law_tidy : Callee P w K mg base k "_law_tidy" P_law_tidy sp_law_tidy) (C_law_behind : Callee P w K mg base k "_law_behind" P_law_behind sp_law_behind)  (cdv : Value) (A : Around) (out : List Env) (st : Shared) (H : Hp) (E : XK)
    (hr : Room k (A.deeper (PyProof.Rows.envOfC "_law_after" (defScope s_law_after) st.heap.objs.size f cdv))) (hgd : (A.deeper (PyProof.Rows.envOfC "_law_after" (defScope s_law_after) st.heap.objs.size f cdv)).guards = some []) :
    DSs (cxOf CX0 P w K mg base N_law_after "_law_after" (defScope s_law_after) f cdv A out st H E).nox (defBody s_law_after) (r_law_after sp_law_tidy sp_law_behind) := by
  have SC := sc_law_after
  have hu := hu_of hr
  have hu64 := hr.units
  have hu70 := hu70_of hr
  exact (ds_one (ds_ret (dc C_law_tidy hr hgd rfl (da_cons (dc C_law_behind hr hgd rfl (da_cons (dv 0) (da_cons (dv 1) da_nil))) da_nil))))

theorem d_law_after {P : Program} {w : World} {K : PySem.W.Frag} {mg : Str → Option Value} {base : Heap} {k : Nat} {f : Addr} {fd : FuncData} {sp : DSp} (T : Tx K mg) {sp_law_tidy : DSp} {sp_law_behind : DSp} (C_law_tidy : Callee P w K mg base k "_law_tidy" P_law_tidy sp_law_tidy) (C_law_behind : Callee P w K mg base k "_law_behind" P_law_behind sp_law_behind) 
    (F : FunD K "_law_after" "_law_after" (defArgs s_law_after) (defBody s_law_after) (defScope s_law_after) [] [] f fd) (len : ∀ ds G Q E, sp ds G Q E → ds.length = 2)
    (ok : ∀ ds G Q E, sp ds G Q E → (r_law_after sp_law_tidy sp_law_behind) { nx := fun _ G' => Q .non G', rt := Q } (startD 2 ds) G) : DFn P w K mg base (k + 1) f fd P_law_after sp :=
  dfn_of F sc_law_after len (b_law_after T C_law_tidy C_law_behind) ok

theorem k_law_after {P : Program} {w : World} {K : PySem.W.Frag} {mg : Str → Option Value} {base : Heap} {k : Nat} {f : Addr} {fd : FuncData} {sp : DSp} (T : Tx K mg) {sp_law_tidy : DSp} {sp_law_behind : DSp} (C_law_tidy : Callee P w K mg base k "_law_tidy" P_law_tidy sp_law_tidy) (C_law_behind : Callee P w K mg base k "_law_behind" P_law_behind sp_law_behind) 
    (F : FunD K "_law_after" "_law_after" (defArgs s_law_after) (defBody s_law_after) (defScope s_law_after) [] [] f fd) (hm : mg "_law_after" = some (.ref f)) (len : ∀ ds G Q E, sp ds G Q E → ds.length = 2)
    (ok : ∀ ds G Q E, sp ds G Q E → (r_law_after sp_law_tidy sp_law_behind) { nx := fun _ G' => Q .non G', rt := Q } (startD 2 ds) G) : Callee P w K mg base (k + 1) "_law_after" P_law_after sp :=
  callee_of F hm (d_law_after T C_law_tidy C_law_behind F len ok) (fun _ _ _ _ _ _ us hl => match us, hl with | [_, _], _ => rfl) (fun _ _ _ _ _ _ us hl => match us, hl with | [_, _], _ => rfl)

abbrev N_law_is_tick : List Str := ["_law_mark"]
abbrev P_law_is_tick : List Str := ["_law_mark"]

theorem sc_law_is_tick : FnScope N_law_is_tick P_law_is_tick (defScope s_law_is_tick) := ⟨rfl, rfl, rfl, by decide +kernel, rfl, by decide +kernel, by decide +kernel⟩

theorem b_law_is_tick {P : Program} {w : World} {K : PySem.W.Frag} {mg : Str → Option Value} {base : Heap} {k : Nat} {f : Addr} (T : Tx K mg) {sp_law_is_tick : DSp} (C_law_is_tick : Callee P w K mg base k "_law_is_tick" P_law_is_tick sp_law_is_tick)  (cdv : Value) (A : Around) (out : List Env) (st : Shared) (H : Hp) (E : XK)
    (hr : Room k (A.deeper (PyProof.Rows.envOfC "_law_is_tick" (defScope s_law_is_tick) st.heap.objs.size f cdv))) (hgd : (A.deeper (PyProof.Rows.envOfC "_law_is_tick" (defScope s_law_is_tick) st.heap.objs.size f cdv)).guards = some []) :
    DSs (cxOf CX0 P w K mg base N_law_is_tick "_law_is_tick" (defScope s_law_is_tick) f cdv A out st H E).nox (defBody s_law_is_tick) (r_law_is_tick sp_law_is_tick) := by
  have SC := sc_law_is_tick
  have hu := hu_of hr
  have hu64 := hr.units
  have hu70 := hu70_of hr
  exact (ds_cons (ds_if (dt_tru (de_isi (T := "tuple") (by decide) rfl T.m_isinstance rfl T.m_tuple (by decide +kernel) (dv 0)))
  (ds_one (ds_ret (de_if (dt_cmp o_in (de_ix (dv 0) de_int) (de_tup (da_cons de_str (da_cons de_str da_nil))) rfl) (dc C_law_is_tick hr hgd rfl (da_cons (de_ix (dv 0) de_int) da_nil)) de_int)))
  ds_nil)
  (ds_one (ds_ret (de_callTy c_int rfl T.m_int (by decide +kernel) (da_cons (de_cmp (o_eq hu64) (dv 0) de_str (nomark _)) da_nil)))))

theorem d_law_is_tick {P : Program} {w : World} {K : PySem.W.Frag} {mg : Str → Option Value} {base : Heap} {k : Nat} {f : Addr} {fd : FuncData} {sp : DSp} (T : Tx K mg) {sp_law_is_tick : DSp} (C_law_is_tick : Callee P w K mg base k "_law_is_tick" P_law_is_tick sp_law_is_tick) 
    (F : FunD K "_law_is_tick" "_law_is_tick" (defArgs s_law_is_tick) (defBody s_law_is_tick) (defScope s_law_is_tick) [] [] f fd) (len : ∀ ds G Q E, sp ds G Q E → ds.length = 1)
    (ok : ∀ ds G Q E, sp ds G Q E → (r_law_is_tick sp_law_is_tick) { nx := fun _ G' => Q .non G', rt := Q } (startD 1 ds) G) : DFn P w K mg base (k + 1) f fd P_law_is_tick sp :=
  dfn_of F sc_law_is_tick len (b_law_is_tick T C_law_is_tick) ok

theorem k_law_is_tick {P : Program} {w : World} {K : PySem.W.Frag} {mg : Str → Option Value} {base : Heap} {k : Nat} {f : Addr} {fd : FuncData} {sp : DSp} (T : Tx K mg) {sp_law_is_tick : DSp} (C_law_is_tick : Callee P w K mg base k "_law_is_tick" P_law_is_tick sp_law_is_tick) 
    (F : FunD K "_law_is_tick" "_law_is_tick" (defArgs s_law_is_tick) (defBody s_law_is_tick) (defScope s_law_is_tick) [] [] f fd) (hm : mg "_law_is_tick" = some (.ref f)) (len : ∀ ds G Q E, sp ds G Q E → ds.length = 1)
    (ok : ∀ ds G Q E, sp ds G Q E → (r_law_is_tick sp_law_is_tick) { nx := fun _ G' => Q .non G', rt := Q } (startD 1 ds) G) : Callee P w K mg base (k + 1) "_law_is_tick" P_law_is_tick sp :=
  callee_of F hm (d_law_is_tick T C_law_is_tick F len ok) (fun _ _ _ _ _ _ us hl => match us, hl with | [_], _ => rfl) (fun _ _ _ _ _ _ us hl => match us, hl with | [_], _ => rfl)

theorem z_law_is_tick {P : Program} {w : World} {K : PySem.W.Frag} {mg : Str → Option Value} {base : Heap} {f : Addr} {fd : FuncData} {sp : DSp} (F : FunD K "_law_is_tick" "_law_is_tick" (defArgs s_law_is_tick) (defBody s_law_is_tick) (defScope s_law_is_tick) [] [] f fd) (hm : mg "_law_is_tick" = some (.ref f)) (h : ∀ ds G Q E, ¬ sp ds G Q E) : Callee P w K mg base 0 "_law_is_tick" P_law_is_tick sp :=
  callee0 F hm h (fun _ _ _ _ _ _ us hl => match us, hl with | [_], _ => rfl) (fun _ _ _ _ _ _ us hl => match us, hl with | [_], _ => rfl)

abbrev N_law_runs : List Str := ["_law_job_here", "_law_most", "_law_found", "_law_pile", "_law_marks", "_law_here", "_law_nexts", "_law_one"]
abbrev P_law_runs : List Str := ["_law_job_here", "_law_most"]

theorem sc_law_runs : FnScope N_law_runs P_law_runs (defScope s_law_runs) := ⟨rfl, rfl, rfl, by decide +kernel, rfl, by decide +kernel, by decide +kernel⟩

theorem b_law_runs {P : Program} {w : World} {K : PySem.W.Frag} {mg : Str → Option Value} {base : Heap} {k : Nat} {f : Addr} (T : Tx K mg) {sp_law_after : DSp} {sp_law_next : DSp} {sp_law_tidy : DSp} (C_law_after : Callee P w K mg base k "_law_after" P_law_after sp_law_after) (C_law_next : Callee P w K mg base k "_law_next" P_law_next sp_law_next) (C_law_tidy : Callee P w K mg base k "_law_tidy" P_law_tidy sp_law_tidy)  (cdv : Value) (A : Around) (out : List Env) (st : Shared) (H : Hp) (E : XK)
    (hr : Room k (A.deeper (PyProof.Rows.envOfC "_law_runs" (defScope s_law_runs) st.heap.objs.size f cdv))) (hgd : (A.deeper (PyProof.Rows.envOfC "_law_runs" (defScope s_law_runs) st.heap.objs.size f cdv)).guards = some []) :
    DSs (cxOf CX0 P w K mg base N_law_runs "_law_runs" (defScope s_law_runs) f cdv A out st H E).nox (defBody s_law_runs) (r_law_runs sp_law_after sp_law_next sp_law_tidy) := by
  have SC := sc_law_runs
  have hu := hu_of hr
  have hu64 := hr.units
  have hu70 := hu70_of hr
  exact (ds_cons (ds_par (i := 2) (j := 3) rfl SC.nd rfl rfl (by decide) rfl rfl (da_cons (de_lst da_nil) (da_cons (de_lst (da_cons (de_tup (da_cons (de_tup da_nil) (da_cons (dc C_law_tidy hr hgd rfl (da_cons (dv 0) da_nil)) da_nil))) da_nil)) da_nil)) rfl)
  (ds_cons (ds_while PassesOwn.never (dt_w (dw_and (dt_cmp (o_ne hu64) (dv 3) (de_frz (de_lst da_nil)) (nomark _)) (dw_and1 (dt_cmp o_le (de_callB c_len rfl T.m_len PySem.boot_len (da_cons (dv 2) da_nil)) (dv 1) (nomark _)))))
  (ds_cons (ds_asg (de_pop (dv 3)) (dg_tup rfl (dgs_cons (dg_name (i := 4) SC.nd rfl (by first | exact Or.inl rfl | exact Or.inr rfl)) (dgs_cons (dg_name (i := 5) SC.nd rfl (by first | exact Or.inl rfl | exact Or.inr rfl)) dgs_nil))))
  (ds_cons (ds_set (i := 6) SC.nd rfl (by first | exact Or.inl rfl | exact Or.inr rfl) (dc C_law_next hr hgd rfl (da_cons (dv 5) da_nil)))
  (ds_cons (ds_if (dt_cmp (o_eq hu64) (dv 6) (de_frz (de_lst da_nil)) (nomark _))
  (ds_one (ds_expr (de_append (dv 2) (dv 4))))
  ds_nil)
  (ds_one (ds_expr (de_extend (dv 3) (de_frz (de_lc (own := [("_law_one", 7)]) (ct := (.one 7)) rfl SC.nd (di_seq (de_frz (de_rev (dv 6)))) (blkOk_by (by show blkC N_law_runs (defScope s_law_runs) _ _ = true; decide +kernel)) (by decide) (fun _ _ _ _ _ => pg_name (i := 7) SC.nd rfl (Or.inl rfl)) (fun _ _ _ _ _ => dts_nil) (fun _ _ _ _ _ => (de_tup (da_cons (de_op o_add (dv 4) (de_tup (da_cons (dv 7) da_nil))) (da_cons (dc C_law_after hr hgd rfl (da_cons (dv 5) (da_cons (dv 7) da_nil))) da_nil)))))))))))))
  (ds_one (ds_ret (de_frz (dv 2))))))

theorem d_law_runs {P : Program} {w : World} {K : PySem.W.Frag} {mg : Str → Option Value} {base : Heap} {k : Nat} {f : Addr} {fd : FuncData} {sp : DSp} (T : Tx K mg) {sp_law_after : DSp} {sp_law_next : DSp} {sp_law_tidy : DSp} (C_law_after : Callee P w K mg base k "_law_after" P_law_after sp_law_after) (C_law_next : Callee P w K mg base k "_law_next" P_law_next sp_law_next) (C_law_tidy : Callee P w K mg base k "_law_tidy" P_law_tidy sp_law_tidy) 
    (F : FunD K "_law_runs" "_law_runs" (defArgs s_law_runs) (defBody s_law_runs) (defScope s_law_runs) [] [] f fd) (len : ∀ ds G Q E, sp ds G Q E → ds.length = 2)
    (ok : ∀ ds G Q E, sp ds G Q E → (r_law_runs sp_law_after sp_law_next sp_law_tidy) { nx := fun _ G' => Q .non G', rt := Q } (startD 8 ds) G) : DFn P w K mg base (k + 1) f fd P_law_runs sp :=
  dfn_of F sc_law_runs len (b_law_runs T C_law_after C_law_next C_law_tidy) ok

theorem k_law_runs {P : Program} {w : World} {K : PySem.W.Frag} {mg : Str → Option Value} {base : Heap} {k : Nat} {f : Addr} {fd : FuncData} {sp : DSp} (T : Tx K mg) {sp_law_after : DSp} {sp_law_next : DSp} {sp_law_tidy : DSp} (C_law_after : Callee P w K mg base k "_law_after" P_law_after sp_law_after) (C_law_next : Callee P w K mg base k "_law_next" P_law_next sp_law_next) (C_law_tidy : Callee P w K mg base k "_law_tidy" P_law_tidy sp_law_tidy) 
    (F : FunD K "_law_runs" "_law_runs" (defArgs s_law_runs) (defBody s_law_runs) (defScope s_law_runs) [] [] f fd) (hm : mg "_law_runs" = some (.ref f)) (len : ∀ ds G Q E, sp ds G Q E → ds.length = 2)
    (ok : ∀ ds G Q E, sp ds G Q E → (r_law_runs sp_law_after sp_law_next sp_law_tidy) { nx := fun _ G' => Q .non G', rt := Q } (startD 8 ds) G) : Callee P w K mg base (k + 1) "_law_runs" P_law_runs sp :=
  callee_of F hm (d_law_runs T C_law_after C_law_next C_law_tidy F len ok) (fun _ _ _ _ _ _ us hl => match us, hl with | [_, _], _ => rfl) (fun _ _ _ _ _ _ us hl => match us, hl with | [_, _], _ => rfl)

abbrev N_law_end : List Str := ["_law_job_here", "_law_is_least", "_law_word", "_law_many", "_law_found", "_law_part"]
abbrev P_law_end : List Str := ["_law_job_here", "_law_is_least"]

theorem sc_law_end : FnScope N_law_end P_law_end (defScope s_law_end) := ⟨rfl, rfl, rfl, by decide +kernel, rfl, by decide +kernel, by decide +kernel⟩

theorem b_law_end {P : Program} {w : World} {K : PySem.W.Frag} {mg : Str → Option Value} {base : Heap} {k : Nat} {f : Addr} (T : Tx K mg) {sp_law_end : DSp} (C_law_end : Callee P w K mg base k "_law_end" P_law_end sp_law_end)  (cdv : Value) (A : Around) (out : List Env) (st : Shared) (H : Hp) (E : XK)
    (hr : Room k (A.deeper (PyProof.Rows.envOfC "_law_end" (defScope s_law_end) st.heap.objs.size f cdv))) (hgd : (A.deeper (PyProof.Rows.envOfC "_law_end" (defScope s_law_end) st.heap.objs.size f cdv)).guards = some []) :
    DSs (cxOf CX0 P w K mg base N_law_end "_law_end" (defScope s_law_end) f cdv A out st H E).nox (defBody s_law_end) (r_law_end sp_law_end) := by
  have SC := sc_law_end
  have hu := hu_of hr
  have hu64 := hr.units
  have hu70 := hu70_of hr
  exact (ds_cons (ds_set (i := 2) SC.nd rfl (by first | exact Or.inl rfl | exact Or.inr rfl) (de_ix (dv 0) de_int))
  (ds_cons (ds_if (dt_cmp (o_eq hu64) (dv 2) de_str (nomark _))
  (ds_one (ds_ret (de_ix (dv 0) de_int)))
  ds_nil)
  (ds_cons (ds_if (dt_cmp o_in (dv 2) (de_tup (da_cons de_str (da_cons de_str da_nil))) rfl)
  (ds_cons (ds_set (i := 3) SC.nd rfl (by first | exact Or.inl rfl | exact Or.inr rfl) (de_if (dt_tru (dv 1)) (de_ix (dv 0) de_int) (de_ix (dv 0) de_int)))
  (ds_one (ds_ret (de_if (dt_cmp (o_eq hu64) (dv 2) de_str (nomark _)) (dv 3) (de_op o_mul (dv 3) (dc C_law_end hr hgd rfl (da_cons (de_ix (dv 0) de_int) (da_cons (dv 1) da_nil))))))))
  ds_nil)
  (ds_cons (ds_if (dt_cmp (o_eq hu64) (dv 2) de_str (nomark _))
  (ds_one (ds_ret (de_op o_add (dc C_law_end hr hgd rfl (da_cons (de_ix (dv 0) de_int) (da_cons (dv 1) da_nil))) (dc C_law_end hr hgd rfl (da_cons (de_ix (dv 0) de_int) (da_cons (dv 1) da_nil))))))
  ds_nil)
  (ds_cons (ds_setLcF (i := 4) (own := [("_law_part", 5)]) (ct := (.one 5)) rfl SC.nd rfl rfl (sw_true rfl rfl rfl (by decide +kernel)) (di_seq (de_ix (dv 0) de_int)) (blkOk_by (by show blkC N_law_end (defScope s_law_end) _ _ = true; decide +kernel)) (by decide) (fun _ _ _ _ _ => pg_name (i := 5) SC.nd rfl (Or.inl rfl)) (fun _ _ _ _ _ => dts_nil) (fun _ _ _ _ _ => (dc C_law_end hr hgd rfl (da_cons (dv 5) (da_cons (dv 1) da_nil)))))
  (ds_cons (ds_if (dt_cmp (o_eq hu64) (dv 2) de_str (nomark _))
  (ds_one (ds_ret (de_callB (c_sum rfl) rfl T.m_sum (by decide +kernel) (da_cons (dv 4) da_nil))))
  ds_nil)
  (ds_one (ds_ret (de_if (dt_tru (dv 1)) (de_callB (c_min rfl) rfl T.m_min (by decide +kernel) (da_cons (dv 4) da_nil)) (de_callB (c_max rfl) rfl T.m_max (by decide +kernel) (da_cons (dv 4) da_nil)))))))))))

theorem d_law_end {P : Program} {w : World} {K : PySem.W.Frag} {mg : Str → Option Value} {base : Heap} {k : Nat} {f : Addr} {fd : FuncData} {sp : DSp} (T : Tx K mg) {sp_law_end : DSp} (C_law_end : Callee P w K mg base k "_law_end" P_law_end sp_law_end) 
    (F : FunD K "_law_end" "_law_end" (defArgs s_law_end) (defBody s_law_end) (defScope s_law_end) [] [] f fd) (len : ∀ ds G Q E, sp ds G Q E → ds.length = 2)
    (ok : ∀ ds G Q E, sp ds G Q E → (r_law_end sp_law_end) { nx := fun _ G' => Q .non G', rt := Q } (startD 6 ds) G) : DFn P w K mg base (k + 1) f fd P_law_end sp :=
  dfn_of F sc_law_end len (b_law_end T C_law_end) ok

theorem k_law_end {P : Program} {w : World} {K : PySem.W.Frag} {mg : Str → Option Value} {base : Heap} {k : Nat} {f : Addr} {fd : FuncData} {sp : DSp} (T : Tx K mg) {sp_law_end : DSp} (C_law_end : Callee P w K mg base k "_law_end" P_law_end sp_law_end) 
    (F : FunD K "_law_end" "_law_end" (defArgs s_law_end) (defBody s_law_end) (defScope s_law_end) [] [] f fd) (hm : mg "_law_end" = some (.ref f)) (len : ∀ ds G Q E, sp ds G Q E → ds.length = 2)
    (ok : ∀ ds G Q E, sp ds G Q E → (r_law_end sp_law_end) { nx := fun _ G' => Q .non G', rt := Q } (startD 6 ds) G) : Callee P w K mg base (k + 1) "_law_end" P_law_end sp :=
  callee_of F hm (d_law_end T C_law_end F len ok) (fun _ _ _ _ _ _ us hl => match us, hl with | [_, _], _ => rfl) (fun _ _ _ _ _ _ us hl => match us, hl with | [_, _], _ => rfl)

theorem z_law_end {P : Program} {w : World} {K : PySem.W.Frag} {mg : Str → Option Value} {base : Heap} {f : Addr} {fd : FuncData} {sp : DSp} (F : FunD K "_law_end" "_law_end" (defArgs s_law_end) (defBody s_law_end) (defScope s_law_end) [] [] f fd) (hm : mg "_law_end" = some (.ref f)) (h : ∀ ds G Q E, ¬ sp ds G Q E) : Callee P w K mg base 0 "_law_end" P_law_end sp :=
  callee0 F hm h (fun _ _ _ _ _ _ us hl => match us, hl with | [_, _], _ => rfl) (fun _ _ _ _ _ _ us hl => match us, hl with | [_, _], _ => rfl)

abbrev N_law_states : List Str := ["_law_job_here", "_law_pile", "_law_seen", "_law_found", "_law_done", "_law_here", "_law_mark", "_law_late"]
abbrev P_law_states : List Str := ["_law_job_here"]

theorem sc_law_states : FnScope N_law_states P_law_states (defScope s_law_states) := ⟨rfl, rfl, rfl, by decide +kernel, rfl, by decide +kernel, by decide +kernel⟩

theorem b_law_states {P : Program} {w : World} {K : PySem.W.Frag} {mg : Str → Option Value} {base : Heap} {k : Nat} {f : Addr} (T : Tx K mg) {sp_law_next : DSp} {sp_law_after : DSp} {sp_law_is_tick : DSp} {sp_law_tidy : DSp} (C_law_next : Callee P w K mg base k "_law_next" P_law_next sp_law_next) (C_law_after : Callee P w K mg base k "_law_after" P_law_after sp_law_after) (C_law_is_tick : Callee P w K mg base k "_law_is_tick" P_law_is_tick sp_law_is_tick) (C_law_tidy : Callee P w K mg base k "_law_tidy" P_law_tidy sp_law_tidy)  (cdv : Value) (A : Around) (out : List Env) (st : Shared) (H : Hp) (E : XK)
    (hr : Room k (A.deeper (PyProof.Rows.envOfC "_law_states" (defScope s_law_states) st.heap.objs.size f cdv))) (hgd : (A.deeper (PyProof.Rows.envOfC "_law_states" (defScope s_law_states) st.heap.objs.size f cdv)).guards = some []) :
    DSs (cxOf CX0 P w K mg base N_law_states "_law_states" (defScope s_law_states) f cdv A out st H E).nox (defBody s_law_states) (r_law_states sp_law_next sp_law_after sp_law_is_tick sp_law_tidy) := by
  have SC := sc_law_states
  have hu := hu_of hr
  have hu64 := hr.units
  have hu70 := hu70_of hr
  exact (ds_cons (ds_set (i := 1) SC.nd rfl (by first | exact Or.inl rfl | exact Or.inr rfl) (de_lst (da_cons (de_tup (da_cons de_int (da_cons (dc C_law_tidy hr hgd rfl (da_cons (dv 0) da_nil)) da_nil))) da_nil)))
  (ds_cons (ds_par (i := 2) (j := 3) rfl SC.nd rfl rfl (by decide) rfl rfl (da_cons (de_disp (dps_cons (de_callB (c_repr hgd hu70) rfl T.m_repr (by decide +kernel) (da_cons (de_ix (dv 1) de_int) da_nil)) de_int dps_nil)) (da_cons (de_lst da_nil) da_nil)) rfl)
  (ds_cons (ds_while PassesOwn.never (dt_cmp (o_ne hu64) (dv 1) (de_frz (de_lst da_nil)) (nomark _))
  (ds_cons (ds_asg (de_pop (dv 1)) (dg_tup rfl (dgs_cons (dg_name (i := 4) SC.nd rfl (by first | exact Or.inl rfl | exact Or.inr rfl)) (dgs_cons (dg_name (i := 5) SC.nd rfl (by first | exact Or.inl rfl | exact Or.inr rfl)) dgs_nil))))
  (ds_cons (ds_expr (de_append (dv 3) (de_tup (da_cons (dv 4) (da_cons (dv 5) da_nil)))))
  (ds_one (ds_for PassesOwn.never rfl (di_seq (dc C_law_next hr hgd rfl (da_cons (dv 5) da_nil))) (dg_name (i := 6) SC.nd rfl (by first | exact Or.inl rfl | exact Or.inr rfl))
  (ds_cons (ds_set (i := 7) SC.nd rfl (by first | exact Or.inl rfl | exact Or.inr rfl) (de_tup (da_cons (de_op o_add (dv 4) (dc C_law_is_tick hr hgd rfl (da_cons (dv 6) da_nil))) (da_cons (dc C_law_after hr hgd rfl (da_cons (dv 5) (da_cons (dv 6) da_nil))) da_nil))))
  (ds_one (ds_if (dt_din hu (.inr ⟨rfl, rfl⟩) (de_callB (c_repr hgd hu70) rfl T.m_repr (by decide +kernel) (da_cons (dv 7) da_nil)) (dv 2) rfl)
  (ds_cons (ds_asg de_int (dg_sub (dv 2) (de_callB (c_repr hgd hu70) rfl T.m_repr (by decide +kernel) (da_cons (dv 7) da_nil)) (set_dct hu)))
  (ds_one (ds_expr (de_append (dv 1) (dv 7)))))
  ds_nil))))))))
  (ds_one (ds_ret (de_callTy c_tuple rfl T.m_tuple (by decide +kernel) (da_cons (de_frz (de_callB (c_sortD hu70) rfl T.m_sorted (by decide +kernel) (da_cons (dv 3) da_nil))) da_nil)))))))

theorem d_law_states {P : Program} {w : World} {K : PySem.W.Frag} {mg : Str → Option Value} {base : Heap} {k : Nat} {f : Addr} {fd : FuncData} {sp : DSp} (T : Tx K mg) {sp_law_next : DSp} {sp_law_after : DSp} {sp_law_is_tick : DSp} {sp_law_tidy : DSp} (C_law_next : Callee P w K mg base k "_law_next" P_law_next sp_law_next) (C_law_after : Callee P w K mg base k "_law_after" P_law_after sp_law_after) (C_law_is_tick : Callee P w K mg base k "_law_is_tick" P_law_is_tick sp_law_is_tick) (C_law_tidy : Callee P w K mg base k "_law_tidy" P_law_tidy sp_law_tidy) 
    (F : FunD K "_law_states" "_law_states" (defArgs s_law_states) (defBody s_law_states) (defScope s_law_states) [] [] f fd) (len : ∀ ds G Q E, sp ds G Q E → ds.length = 1)
    (ok : ∀ ds G Q E, sp ds G Q E → (r_law_states sp_law_next sp_law_after sp_law_is_tick sp_law_tidy) { nx := fun _ G' => Q .non G', rt := Q } (startD 8 ds) G) : DFn P w K mg base (k + 1) f fd P_law_states sp :=
  dfn_of F sc_law_states len (b_law_states T C_law_next C_law_after C_law_is_tick C_law_tidy) ok

theorem k_law_states {P : Program} {w : World} {K : PySem.W.Frag} {mg : Str → Option Value} {base : Heap} {k : Nat} {f : Addr} {fd : FuncData} {sp : DSp} (T : Tx K mg) {sp_law_next : DSp} {sp_law_after : DSp} {sp_law_is_tick : DSp} {sp_law_tidy : DSp} (C_law_next : Callee P w K mg base k "_law_next" P_law_next sp_law_next) (C_law_after : Callee P w K mg base k "_law_after" P_law_after sp_law_after) (C_law_is_tick : Callee P w K mg base k "_law_is_tick" P_law_is_tick sp_law_is_tick) (C_law_tidy : Callee P w K mg base k "_law_tidy" P_law_tidy sp_law_tidy) 
    (F : FunD K "_law_states" "_law_states" (defArgs s_law_states) (defBody s_law_states) (defScope s_law_states) [] [] f fd) (hm : mg "_law_states" = some (.ref f)) (len : ∀ ds G Q E, sp ds G Q E → ds.length = 1)
    (ok : ∀ ds G Q E, sp ds G Q E → (r_law_states sp_law_next sp_law_after sp_law_is_tick sp_law_tidy) { nx := fun _ G' => Q .non G', rt := Q } (startD 8 ds) G) : Callee P w K mg base (k + 1) "_law_states" P_law_states sp :=
  callee_of F hm (d_law_states T C_law_next C_law_after C_law_is_tick C_law_tidy F len ok) (fun _ _ _ _ _ _ us hl => match us, hl with | [_], _ => rfl) (fun _ _ _ _ _ _ us hl => match us, hl with | [_], _ => rfl)

abbrev N_law_rounds : List Str := ["_law_both", "_law_told"]
abbrev P_law_rounds : List Str := []

theorem sc_law_rounds : FnScope N_law_rounds P_law_rounds (defScope s_law_rounds) := ⟨rfl, rfl, rfl, by decide +kernel, rfl, by decide +kernel, by decide +kernel⟩

theorem b_law_rounds {P : Program} {w : World} {K : PySem.W.Frag} {mg : Str → Option Value} {base : Heap} {k : Nat} {f : Addr} (T : Tx K mg)    (cdv : Value) (A : Around) (out : List Env) (st : Shared) (H : Hp) (E : XK)
    (hr : Room k (A.deeper (PyProof.Rows.envOfC "_law_rounds" (defScope s_law_rounds) st.heap.objs.size f cdv))) (hgd : (A.deeper (PyProof.Rows.envOfC "_law_rounds" (defScope s_law_rounds) st.heap.objs.size f cdv)).guards = some []) :
    DSs (cxOf CX0 P w K mg base N_law_rounds "_law_rounds" (defScope s_law_rounds) f cdv A out st H E).nox (defBody s_law_rounds) (r_law_rounds) := by
  have SC := sc_law_rounds
  have hu := hu_of hr
  have hu64 := hr.units
  have hu70 := hu70_of hr
  exact (ds_cons (ds_setLcF (i := 0) (own := [("_law_told", 1)]) (ct := (.one 1)) rfl SC.nd rfl rfl (sw_true rfl rfl rfl (by decide +kernel)) (di_seq (de_tup (da_cons de_bl (da_cons de_bl da_nil)))) (blkOk_by (by show blkC N_law_rounds (defScope s_law_rounds) _ _ = true; decide +kernel)) (by decide) (fun _ _ _ _ _ => pg_name (i := 1) SC.nd rfl (Or.inl rfl)) (fun _ _ _ _ _ => dts_nil) (fun _ _ _ _ _ => (de_tup (da_cons de_str (da_cons (de_tup (da_cons (de_tup (da_cons de_str (da_cons de_int da_nil))) (da_cons (de_tup (da_cons de_str (da_cons de_int (da_cons de_int (da_cons (dv 1) (da_cons (de_tup (da_cons de_str (da_cons de_int da_nil))) da_nil)))))) da_nil))) da_nil)))))
  (ds_one (ds_ret (de_tup (da_cons (de_ix (dv 0) de_int) (da_cons (de_ix (dv 0) de_int) da_nil))))))

theorem d_law_rounds {P : Program} {w : World} {K : PySem.W.Frag} {mg : Str → Option Value} {base : Heap} {k : Nat} {f : Addr} {fd : FuncData} {sp : DSp} (T : Tx K mg)   
    (F : FunD K "_law_rounds" "_law_rounds" (defArgs s_law_rounds) (defBody s_law_rounds) (defScope s_law_rounds) [] [] f fd) (len : ∀ ds G Q E, sp ds G Q E → ds.length = 0)
    (ok : ∀ ds G Q E, sp ds G Q E → (r_law_rounds) { nx := fun _ G' => Q .non G', rt := Q } (startD 2 ds) G) : DFn P w K mg base (k + 1) f fd P_law_rounds sp :=
  dfn_of F sc_law_rounds len (b_law_rounds T) ok

theorem k_law_rounds {P : Program} {w : World} {K : PySem.W.Frag} {mg : Str → Option Value} {base : Heap} {k : Nat} {f : Addr} {fd : FuncData} {sp : DSp} (T : Tx K mg)   
    (F : FunD K "_law_rounds" "_law_rounds" (defArgs s_law_rounds) (defBody s_law_rounds) (defScope s_law_rounds) [] [] f fd) (hm : mg "_law_rounds" = some (.ref f)) (len : ∀ ds G Q E, sp ds G Q E → ds.length = 0)
    (ok : ∀ ds G Q E, sp ds G Q E → (r_law_rounds) { nx := fun _ G' => Q .non G', rt := Q } (startD 2 ds) G) : Callee P w K mg base (k + 1) "_law_rounds" P_law_rounds sp :=
  callee_of F hm (d_law_rounds T F len ok) (fun _ _ _ _ _ _ us hl => match us, hl with | [], _ => rfl) (fun _ _ _ _ _ _ us hl => match us, hl with | [], _ => rfl)

abbrev N_law_job : List Str := ["_law_feed_here", "_law_deep", "_law_spare", "_law_which", "_law_least", "_law_many", "_law_is_side", "_law_some", "_law_k"]
abbrev P_law_job : List Str := ["_law_feed_here", "_law_deep", "_law_spare"]

theorem sc_law_job : FnScope N_law_job P_law_job (defScope s_law_job) := ⟨rfl, rfl, rfl, by decide +kernel, rfl, by decide +kernel, by decide +kernel⟩

theorem b_law_job {P : Program} {w : World} {K : PySem.W.Frag} {mg : Str → Option Value} {base : Heap} {k : Nat} {f : Addr} (T : Tx K mg) {sp_law_draw : DSp} {sp_law_job : DSp} (C_law_draw : Callee P w K mg base k "_law_draw" P_law_draw sp_law_draw) (C_law_job : Callee P w K mg base k "_law_job" P_law_job sp_law_job)  (cdv : Value) (A : Around) (out : List Env) (st : Shared) (H : Hp) (E : XK)
    (hr : Room k (A.deeper (PyProof.Rows.envOfC "_law_job" (defScope s_law_job) st.heap.objs.size f cdv))) (hgd : (A.deeper (PyProof.Rows.envOfC "_law_job" (defScope s_law_job) st.heap.objs.size f cdv)).guards = some []) :
    DSs (cxOf CX0 P w K mg base N_law_job "_law_job" (defScope s_law_job) f cdv A out st H E).nox (defBody s_law_job) (r_law_job sp_law_draw sp_law_job) := by
  have SC := sc_law_job
  have hu := hu_of hr
  have hu64 := hr.units
  have hu70 := hu70_of hr
  exact (ds_cons (ds_set (i := 3) SC.nd rfl (by first | exact Or.inl rfl | exact Or.inr rfl) (de_if (dt_w (dw_and (dt_cmp o_gt (dv 1) de_int (nomark _)) (dw_and1 (dt_cmp o_gt (de_ix (dv 2) de_int) de_int (nomark _))))) (dc C_law_draw hr hgd rfl (da_cons (dv 0) (da_cons de_int da_nil))) (dc C_law_draw hr hgd rfl (da_cons (dv 0) (da_cons de_int da_nil)))))
  (ds_cons (ds_par (i := 4) (j := 5) rfl SC.nd rfl rfl (by decide) rfl rfl (da_cons (dc C_law_draw hr hgd rfl (da_cons (dv 0) (da_cons de_int da_nil))) (da_cons de_int da_nil)) rfl)
  (ds_cons (ds_if (dt_cmp (o_eq hu64) (dv 3) de_int (nomark _))
  (ds_one (ds_ret (de_tup (da_cons de_str (da_cons (de_op o_add de_int (dc C_law_draw hr hgd rfl (da_cons (dv 0) (da_cons de_int da_nil)))) da_nil)))))
  ds_nil)
  (ds_cons (ds_if (dt_cmp o_lt (dv 3) de_int (nomark _))
  (ds_one (ds_ret (de_tup (da_cons de_str (da_cons (dv 4) (da_cons (de_op o_add (dv 4) (dc C_law_draw hr hgd rfl (da_cons (dv 0) (da_cons de_int da_nil)))) (da_cons (de_cmp (o_eq hu64) (dv 3) de_int (nomark _)) da_nil)))))))
  ds_nil)
  (ds_cons (ds_if (dt_cmp o_lt (dv 3) de_int (nomark _))
  (ds_one (ds_set (i := 5) SC.nd rfl (by first | exact Or.inl rfl | exact Or.inr rfl) (de_callB (c_min2 rfl) rfl T.m_min (by decide +kernel) (da_cons (dc C_law_draw hr hgd rfl (da_cons (dv 0) (da_cons de_int da_nil))) (da_cons (de_ix (dv 2) de_int) da_nil)))))
  (ds_one (ds_if (dt_cmp o_gt (dv 3) de_int (nomark _))
  (ds_one (ds_set (i := 5) SC.nd rfl (by first | exact Or.inl rfl | exact Or.inr rfl) (de_if (dt_w (dw_or (dt_cmp (o_eq hu64) (dv 3) de_int (nomark _)) (dw_or1 (dt_not (dt_tru (de_ix (dv 2) de_int)))))) (de_op o_add de_int (dc C_law_draw hr hgd rfl (da_cons (dv 0) (da_cons de_int da_nil)))) de_int)))
  ds_nil)))
  (ds_cons (ds_set (i := 6) SC.nd rfl (by first | exact Or.inl rfl | exact Or.inr rfl) (de_and (de_cmp (o_eq hu64) (dv 3) de_int (nomark _)) (de_one (de_ix (dv 2) de_int))))
  (ds_cons (ds_asg (de_tup (da_cons (de_op o_sub (de_ix (dv 2) de_int) (dv 5)) (da_cons (de_and (de_ix (dv 2) de_int) (de_one (de_not (dv 6)))) da_nil))) (dg_tup rfl (dgs_cons (dg_sub (dv 2) de_int set_lst) (dgs_cons (dg_sub (dv 2) de_int set_lst) dgs_nil))))
  (ds_cons (ds_setLcF (i := 7) (own := [("_law_k", 8)]) (ct := (.one 8)) rfl SC.nd rfl rfl (sw_true rfl rfl rfl (by decide +kernel)) (di_range1 rfl T.m_range (da_cons (dv 5) da_nil)) (blkOk_by (by show blkC N_law_job (defScope s_law_job) _ _ = true; decide +kernel)) (by decide) (fun _ _ _ _ _ => pg_name (i := 8) SC.nd rfl (Or.inl rfl)) (fun _ _ _ _ _ => dts_nil) (fun _ _ _ _ _ => (dc C_law_job hr hgd rfl (da_cons (dv 0) (da_cons (de_op o_sub (dv 1) de_int) (da_cons (dv 2) da_nil))))))
  (ds_cons (ds_if (dt_cmp o_in (dv 3) (de_tup (da_cons de_int (da_cons de_int da_nil))) rfl)
  (ds_one (ds_ret (de_tup (da_cons de_str (da_cons (dv 4) (da_cons (de_op o_add (dv 4) (dc C_law_draw hr hgd rfl (da_cons (dv 0) (da_cons de_int da_nil)))) (da_cons (de_cmp (o_eq hu64) (dv 3) de_int (nomark _)) (da_cons (de_ix (dv 7) de_int) da_nil))))))))
  ds_nil)
  (ds_cons (ds_if (dt_tru (dv 6))
  (ds_one (ds_ret (de_tup (da_cons de_str (da_cons (de_ix (dv 7) de_int) (da_cons (de_ix (dv 7) de_int) da_nil))))))
  ds_nil)
  (ds_one (ds_ret (de_tup (da_cons (de_if (dt_cmp o_lt (dv 3) de_int (nomark _)) de_str de_str) (da_cons (de_callTy c_tuple rfl T.m_tuple (by decide +kernel) (da_cons (dv 7) da_nil)) da_nil)))))))))))))))

theorem d_law_job {P : Program} {w : World} {K : PySem.W.Frag} {mg : Str → Option Value} {base : Heap} {k : Nat} {f : Addr} {fd : FuncData} {sp : DSp} (T : Tx K mg) {sp_law_draw : DSp} {sp_law_job : DSp} (C_law_draw : Callee P w K mg base k "_law_draw" P_law_draw sp_law_draw) (C_law_job : Callee P w K mg base k "_law_job" P_law_job sp_law_job) 
    (F : FunD K "_law_job" "_law_job" (defArgs s_law_job) (defBody s_law_job) (defScope s_law_job) [] [] f fd) (len : ∀ ds G Q E, sp ds G Q E → ds.length = 3)
    (ok : ∀ ds G Q E, sp ds G Q E → (r_law_job sp_law_draw sp_law_job) { nx := fun _ G' => Q .non G', rt := Q } (startD 9 ds) G) : DFn P w K mg base (k + 1) f fd P_law_job sp :=
  dfn_of F sc_law_job len (b_law_job T C_law_draw C_law_job) ok

theorem k_law_job {P : Program} {w : World} {K : PySem.W.Frag} {mg : Str → Option Value} {base : Heap} {k : Nat} {f : Addr} {fd : FuncData} {sp : DSp} (T : Tx K mg) {sp_law_draw : DSp} {sp_law_job : DSp} (C_law_draw : Callee P w K mg base k "_law_draw" P_law_draw sp_law_draw) (C_law_job : Callee P w K mg base k "_law_job" P_law_job sp_law_job) 
    (F : FunD K "_law_job" "_law_job" (defArgs s_law_job) (defBody s_law_job) (defScope s_law_job) [] [] f fd) (hm : mg "_law_job" = some (.ref f)) (len : ∀ ds G Q E, sp ds G Q E → ds.length = 3)
    (ok : ∀ ds G Q E, sp ds G Q E → (r_law_job sp_law_draw sp_law_job) { nx := fun _ G' => Q .non G', rt := Q } (startD 9 ds) G) : Callee P w K mg base (k + 1) "_law_job" P_law_job sp :=
  callee_of F hm (d_law_job T C_law_draw C_law_job F len ok) (fun _ _ _ _ _ _ us hl => match us, hl with | [_, _, _], _ => rfl) (fun _ _ _ _ _ _ us hl => match us, hl with | [_, _, _], _ => rfl)

theorem z_law_job {P : Program} {w : World} {K : PySem.W.Frag} {mg : Str → Option Value} {base : Heap} {f : Addr} {fd : FuncData} {sp : DSp} (F : FunD K "_law_job" "_law_job" (defArgs s_law_job) (defBody s_law_job) (defScope s_law_job) [] [] f fd) (hm : mg "_law_job" = some (.ref f)) (h : ∀ ds G Q E, ¬ sp ds G Q E) : Callee P w K mg base 0 "_law_job" P_law_job sp :=
  callee0 F hm h (fun _ _ _ _ _ _ us hl => match us, hl with | [_, _, _], _ => rfl) (fun _ _ _ _ _ _ us hl => match us, hl with | [_, _, _], _ => rfl)

abbrev N_law_some_job : List Str := ["_law_feed_here", "_law_most", "_law_job_here"]
abbrev P_law_some_job : List Str := ["_law_feed_here", "_law_most"]

theorem sc_law_some_job : FnScope N_law_some_job P_law_some_job (defScope s_law_some_job) := ⟨rfl, rfl, rfl, by decide +kernel, rfl, by decide +kernel, by decide +kernel⟩

theorem b_law_some_job {P : Program} {w : World} {K : PySem.W.Frag} {mg : Str → Option Value} {base : Heap} {k : Nat} {f : Addr} (T : Tx K mg) {sp_law_runs : DSp} {sp_law_rounds : DSp} {sp_law_draw : DSp} {sp_law_small_job : DSp} (C_law_runs : Callee P w K mg base k "_law_runs" P_law_runs sp_law_runs) (C_law_rounds : Callee P w K mg base k "_law_rounds" P_law_rounds sp_law_rounds) (C_law_draw : Callee P w K mg base k "_law_draw" P_law_draw sp_law_draw) (C_law_small_job : Callee P w K mg base k "_law_small_job" P_law_small_job sp_law_small_job)  (cdv : Value) (A : Around) (out : List Env) (st : Shared) (H : Hp) (E : XK)
    (hr : Room k (A.deeper (PyProof.Rows.envOfC "_law_some_job" (defScope s_law_some_job) st.heap.objs.size f cdv))) (hgd : (A.deeper (PyProof.Rows.envOfC "_law_some_job" (defScope s_law_some_job) st.heap.objs.size f cdv)).guards = some []) :
    DSs (cxOf CX0 P w K mg base N_law_some_job "_law_some_job" (defScope s_law_some_job) f cdv A out st H E).nox (defBody s_law_some_job) (r_law_some_job sp_law_runs sp_law_rounds sp_law_draw sp_law_small_job) := by
  have SC := sc_law_some_job
  have hu := hu_of hr
  have hu64 := hr.units
  have hu70 := hu70_of hr
  exact (ds_cons (ds_set (i := 2) SC.nd rfl (by first | exact Or.inl rfl | exact Or.inr rfl) (dc C_law_small_job hr hgd rfl (da_cons (dv 0) (da_cons de_int (da_cons (de_lst (da_cons de_int (da_cons (de_cmp (o_eq hu64) (dc C_law_draw hr hgd rfl (da_cons (dv 0) (da_cons de_int da_nil))) de_int (nomark _)) da_nil))) da_nil)))))
  (ds_one (ds_ret (de_if (dt_cmp o_le (de_callB c_len rfl T.m_len PySem.boot_len (da_cons (dc C_law_runs hr hgd rfl (da_cons (dv 2) (da_cons (dv 1) da_nil))) da_nil)) (dv 1) (nomark _)) (dv 2) (de_ix (dc0 C_law_rounds hr hgd rfl) (dc C_law_draw hr hgd rfl (da_cons (dv 0) (da_cons de_int da_nil))))))))

theorem d_law_some_job {P : Program} {w : World} {K : PySem.W.Frag} {mg : Str → Option Value} {base : Heap} {k : Nat} {f : Addr} {fd : FuncData} {sp : DSp} (T : Tx K mg) {sp_law_runs : DSp} {sp_law_rounds : DSp} {sp_law_draw : DSp} {sp_law_small_job : DSp} (C_law_runs : Callee P w K mg base k "_law_runs" P_law_runs sp_law_runs) (C_law_rounds : Callee P w K mg base k "_law_rounds" P_law_rounds sp_law_rounds) (C_law_draw : Callee P w K mg base k "_law_draw" P_law_draw sp_law_draw) (C_law_small_job : Callee P w K mg base k "_law_small_job" P_law_small_job sp_law_small_job) 
    (F : FunD K "_law_some_job" "_law_some_job" (defArgs s_law_some_job) (defBody s_law_some_job) (defScope s_law_some_job) [] [] f fd) (len : ∀ ds G Q E, sp ds G Q E → ds.length = 2)
    (ok : ∀ ds G Q E, sp ds G Q E → (r_law_some_job sp_law_runs sp_law_rounds sp_law_draw sp_law_small_job) { nx := fun _ G' => Q .non G', rt := Q } (startD 3 ds) G) : DFn P w K mg base (k + 1) f fd P_law_some_job sp :=
  dfn_of F sc_law_some_job len (b_law_some_job T C_law_runs C_law_rounds C_law_draw C_law_small_job) ok

theorem k_law_some_job {P : Program} {w : World} {K : PySem.W.Frag} {mg : Str → Option Value} {base : Heap} {k : Nat} {f : Addr} {fd : FuncData} {sp : DSp} (T : Tx K mg) {sp_law_runs : DSp} {sp_law_rounds : DSp} {sp_law_draw : DSp} {sp_law_small_job : DSp} (C_law_runs : Callee P w K mg base k "_law_runs" P_law_runs sp_law_runs) (C_law_rounds : Callee P w K mg base k "_law_rounds" P_law_rounds sp_law_rounds) (C_law_draw : Callee P w K mg base k "_law_draw" P_law_draw sp_law_draw) (C_law_small_job : Callee P w K mg base k "_law_small_job" P_law_small_job sp_law_small_job) 
    (F : FunD K "_law_some_job" "_law_some_job" (defArgs s_law_some_job) (defBody s_law_some_job) (defScope s_law_some_job) [] [] f fd) (hm : mg "_law_some_job" = some (.ref f)) (len : ∀ ds G Q E, sp ds G Q E → ds.length = 2)
    (ok : ∀ ds G Q E, sp ds G Q E → (r_law_some_job sp_law_runs sp_law_rounds sp_law_draw sp_law_small_job) { nx := fun _ G' => Q .non G', rt := Q } (startD 3 ds) G) : Callee P w K mg base (k + 1) "_law_some_job" P_law_some_job sp :=
  callee_of F hm (d_law_some_job T C_law_runs C_law_rounds C_law_draw C_law_small_job F len ok) (fun _ _ _ _ _ _ us hl => match us, hl with | [_, _], _ => rfl) (fun _ _ _ _ _ _ us hl => match us, hl with | [_, _], _ => rfl)

abbrev N_law_sides : List Str := []
abbrev P_law_sides : List Str := []

theorem sc_law_sides : FnScope N_law_sides P_law_sides (defScope s_law_sides) := ⟨rfl, rfl, rfl, by decide +kernel, rfl, by decide +kernel, by decide +kernel⟩

theorem b_law_sides {P : Program} {w : World} {K : PySem.W.Frag} {mg : Str → Option Value} {base : Heap} {k : Nat} {f : Addr} (T : Tx K mg)    (cdv : Value) (A : Around) (out : List Env) (st : Shared) (H : Hp) (E : XK)
    (hr : Room k (A.deeper (PyProof.Rows.envOfC "_law_sides" (defScope s_law_sides) st.heap.objs.size f cdv))) (hgd : (A.deeper (PyProof.Rows.envOfC "_law_sides" (defScope s_law_sides) st.heap.objs.size f cdv)).guards = some []) :
    DSs (cxOf CX0 P w K mg base N_law_sides "_law_sides" (defScope s_law_sides) f cdv A out st H E).nox (defBody s_law_sides) (r_law_sides) := by
  have SC := sc_law_sides
  have hu := hu_of hr
  have hu64 := hr.units
  have hu70 := hu70_of hr
  exact (ds_one (ds_ret (de_tup (da_cons de_str (da_cons (de_tup (da_cons de_str (da_cons de_int da_nil))) (da_cons (de_tup (da_cons de_str (da_cons de_int (da_cons de_int (da_cons de_bl da_nil))))) da_nil))))))

theorem d_law_sides {P : Program} {w : World} {K : PySem.W.Frag} {mg : Str → Option Value} {base : Heap} {k : Nat} {f : Addr} {fd : FuncData} {sp : DSp} (T : Tx K mg)   
    (F : FunD K "_law_sides" "_law_sides" (defArgs s_law_sides) (defBody s_law_sides) (defScope s_law_sides) [] [] f fd) (len : ∀ ds G Q E, sp ds G Q E → ds.length = 0)
    (ok : ∀ ds G Q E, sp ds G Q E → (r_law_sides) { nx := fun _ G' => Q .non G', rt := Q } (startD 0 ds) G) : DFn P w K mg base (k + 1) f fd P_law_sides sp :=
  dfn_of F sc_law_sides len (b_law_sides T) ok

theorem k_law_sides {P : Program} {w : World} {K : PySem.W.Frag} {mg : Str → Option Value} {base : Heap} {k : Nat} {f : Addr} {fd : FuncData} {sp : DSp} (T : Tx K mg)   
    (F : FunD K "_law_sides" "_law_sides" (defArgs s_law_sides) (defBody s_law_sides) (defScope s_law_sides) [] [] f fd) (hm : mg "_law_sides" = some (.ref f)) (len : ∀ ds G Q E, sp ds G Q E → ds.length = 0)
    (ok : ∀ ds G Q E, sp ds G Q E → (r_law_sides) { nx := fun _ G' => Q .non G', rt := Q } (startD 0 ds) G) : Callee P w K mg base (k + 1) "_law_sides" P_law_sides sp :=
  callee_of F hm (d_law_sides T F len ok) (fun _ _ _ _ _ _ us hl => match us, hl with | [], _ => rfl) (fun _ _ _ _ _ _ us hl => match us, hl with | [], _ => rfl)

abbrev N_law_great : List Str := ["_law_inner", "_law_long", "_law_both"]
abbrev P_law_great : List Str := []

theorem sc_law_great : FnScope N_law_great P_law_great (defScope s_law_great) := ⟨rfl, rfl, rfl, by decide +kernel, rfl, by decide +kernel, by decide +kernel⟩

theorem b_law_great {P : Program} {w : World} {K : PySem.W.Frag} {mg : Str → Option Value} {base : Heap} {k : Nat} {f : Addr} (T : Tx K mg)    (cdv : Value) (A : Around) (out : List Env) (st : Shared) (H : Hp) (E : XK)
    (hr : Room k (A.deeper (PyProof.Rows.envOfC "_law_great" (defScope s_law_great) st.heap.objs.size f cdv))) (hgd : (A.deeper (PyProof.Rows.envOfC "_law_great" (defScope s_law_great) st.heap.objs.size f cdv)).guards = some []) :
    DSs (cxOf CX0 P w K mg base N_law_great "_law_great" (defScope s_law_great) f cdv A out st H E).nox (defBody s_law_great) (r_law_great) := by
  have SC := sc_law_great
  have hu := hu_of hr
  have hu64 := hr.units
  have hu70 := hu70_of hr
  exact (ds_cons (ds_set (i := 0) SC.nd rfl (by first | exact Or.inl rfl | exact Or.inr rfl) (de_tup (da_cons de_str (da_cons (de_tup (da_cons (de_tup (da_cons de_str (da_cons de_int da_nil))) (da_cons (de_tup (da_cons de_str (da_cons de_int (da_cons de_int (da_cons de_bl da_nil))))) da_nil))) da_nil))))
  (ds_cons (ds_set (i := 1) SC.nd rfl (by first | exact Or.inl rfl | exact Or.inr rfl) (de_tup (da_cons de_str (da_cons (de_tup (da_cons (de_tup (da_cons de_str (da_cons de_int (da_cons de_int (da_cons de_bl (da_cons (dv 0) da_nil)))))) (da_cons (de_tup (da_cons de_str (da_cons (de_tup (da_cons (de_tup (da_cons de_str (da_cons de_int da_nil))) (da_cons (de_tup (da_cons de_str (da_cons de_int (da_cons de_int (da_cons de_bl da_nil))))) da_nil))) da_nil))) da_nil))) da_nil))))
  (ds_cons (ds_set (i := 2) SC.nd rfl (by first | exact Or.inl rfl | exact Or.inr rfl) (de_tup (da_cons de_str (da_cons (de_tup (da_cons (de_tup (da_cons de_str (da_cons de_int da_nil))) (da_cons (de_tup (da_cons de_str (da_cons (de_tup (da_cons de_str (da_cons de_int (da_cons de_int (da_cons de_bl da_nil))))) (da_cons (de_tup (da_cons de_str (da_cons de_int (da_cons de_int (da_cons de_bl (da_cons (de_tup (da_cons de_str (da_cons de_int da_nil))) da_nil)))))) da_nil)))) da_nil))) da_nil))))
  (ds_one (ds_ret (de_tup (da_cons (dv 1) (da_cons (dv 2) (da_cons (de_tup (da_cons de_str (da_cons (de_tup (da_cons (de_tup (da_cons de_str (da_cons de_int da_nil))) (da_cons (de_tup (da_cons de_str (da_cons de_int (da_cons de_int (da_cons de_bl (da_cons (de_tup (da_cons de_str (da_cons de_int da_nil))) da_nil)))))) da_nil))) da_nil))) da_nil)))))))))

theorem d_law_great {P : Program} {w : World} {K : PySem.W.Frag} {mg : Str → Option Value} {base : Heap} {k : Nat} {f : Addr} {fd : FuncData} {sp : DSp} (T : Tx K mg)   
    (F : FunD K "_law_great" "_law_great" (defArgs s_law_great) (defBody s_law_great) (defScope s_law_great) [] [] f fd) (len : ∀ ds G Q E, sp ds G Q E → ds.length = 0)
    (ok : ∀ ds G Q E, sp ds G Q E → (r_law_great) { nx := fun _ G' => Q .non G', rt := Q } (startD 3 ds) G) : DFn P w K mg base (k + 1) f fd P_law_great sp :=
  dfn_of F sc_law_great len (b_law_great T) ok

theorem k_law_great {P : Program} {w : World} {K : PySem.W.Frag} {mg : Str → Option Value} {base : Heap} {k : Nat} {f : Addr} {fd : FuncData} {sp : DSp} (T : Tx K mg)   
    (F : FunD K "_law_great" "_law_great" (defArgs s_law_great) (defBody s_law_great) (defScope s_law_great) [] [] f fd) (hm : mg "_law_great" = some (.ref f)) (len : ∀ ds G Q E, sp ds G Q E → ds.length = 0)
    (ok : ∀ ds G Q E, sp ds G Q E → (r_law_great) { nx := fun _ G' => Q .non G', rt := Q } (startD 3 ds) G) : Callee P w K mg base (k + 1) "_law_great" P_law_great sp :=
  callee_of F hm (d_law_great T F len ok) (fun _ _ _ _ _ _ us hl => match us, hl with | [], _ => rfl) (fun _ _ _ _ _ _ us hl => match us, hl with | [], _ => rfl)

abbrev N_law_is_small : List Str := ["_law_job_here", "_law_pile", "_law_seen", "_law_done", "_law_here", "_law_mark", "_law_late"]
abbrev P_law_is_small : List Str := ["_law_job_here"]

theorem sc_law_is_small : FnScope N_law_is_small P_law_is_small (defScope s_law_is_small) := ⟨rfl, rfl, rfl, by decide +kernel, rfl, by decide +kernel, by decide +kernel⟩

theorem b_law_is_small {P : Program} {w : World} {K : PySem.W.Frag} {mg : Str → Option Value} {base : Heap} {k : Nat} {f : Addr} (T : Tx K mg) {sp_law_end : DSp} {sp_law_next : DSp} {sp_law_after : DSp} {sp_law_is_tick : DSp} {sp_law_tidy : DSp} (C_law_end : Callee P w K mg base k "_law_end" P_law_end sp_law_end) (C_law_next : Callee P w K mg base k "_law_next" P_law_next sp_law_next) (C_law_after : Callee P w K mg base k "_law_after" P_law_after sp_law_after) (C_law_is_tick : Callee P w K mg base k "_law_is_tick" P_law_is_tick sp_law_is_tick) (C_law_tidy : Callee P w K mg base k "_law_tidy" P_law_tidy sp_law_tidy)  (cdv : Value) (A : Around) (out : List Env) (st : Shared) (H : Hp) (E : XK)
    (hr : Room k (A.deeper (PyProof.Rows.envOfC "_law_is_small" (defScope s_law_is_small) st.heap.objs.size f cdv))) (hgd : (A.deeper (PyProof.Rows.envOfC "_law_is_small" (defScope s_law_is_small) st.heap.objs.size f cdv)).guards = some []) :
    DSs (cxOf CX0 P w K mg base N_law_is_small "_law_is_small" (defScope s_law_is_small) f cdv A out st H E).nox (defBody s_law_is_small) (r_law_is_small sp_law_end sp_law_next sp_law_after sp_law_is_tick sp_law_tidy) := by
  have SC := sc_law_is_small
  have hu := hu_of hr
  have hu64 := hr.units
  have hu70 := hu70_of hr
  exact (ds_cons (ds_set (i := 1) SC.nd rfl (by first | exact Or.inl rfl | exact Or.inr rfl) (de_lst (da_cons (de_tup (da_cons de_int (da_cons (dc C_law_tidy hr hgd rfl (da_cons (dv 0) da_nil)) da_nil))) da_nil)))
  (ds_cons (ds_set (i := 2) SC.nd rfl (by first | exact Or.inl rfl | exact Or.inr rfl) (de_disp (dps_cons (de_callB (c_repr hgd hu70) rfl T.m_repr (by decide +kernel) (da_cons (de_ix (dv 1) de_int) da_nil)) de_int dps_nil)))
  (ds_cons (ds_while PassesOwn.never (dt_w (dw_and (dt_cmp (o_ne hu64) (dv 1) (de_frz (de_lst da_nil)) (nomark _)) (dw_and1 (dt_cmp o_le (de_callB c_len rfl T.m_len PySem.boot_len (da_cons (dv 2) da_nil)) de_int (nomark _)))))
  (ds_cons (ds_asg (de_pop (dv 1)) (dg_tup rfl (dgs_cons (dg_name (i := 3) SC.nd rfl (by first | exact Or.inl rfl | exact Or.inr rfl)) (dgs_cons (dg_name (i := 4) SC.nd rfl (by first | exact Or.inl rfl | exact Or.inr rfl)) dgs_nil))))
  (ds_one (ds_for PassesOwn.never rfl (di_seq (dc C_law_next hr hgd rfl (da_cons (dv 4) da_nil))) (dg_name (i := 5) SC.nd rfl (by first | exact Or.inl rfl | exact Or.inr rfl))
  (ds_cons (ds_set (i := 6) SC.nd rfl (by first | exact Or.inl rfl | exact Or.inr rfl) (de_tup (da_cons (de_op o_add (dv 3) (dc C_law_is_tick hr hgd rfl (da_cons (dv 5) da_nil))) (da_cons (dc C_law_after hr hgd rfl (da_cons (dv 4) (da_cons (dv 5) da_nil))) da_nil))))
  (ds_one (ds_if (dt_din hu (.inr ⟨rfl, rfl⟩) (de_callB (c_repr hgd hu70) rfl T.m_repr (by decide +kernel) (da_cons (dv 6) da_nil)) (dv 2) rfl)
  (ds_cons (ds_asg de_int (dg_sub (dv 2) (de_callB (c_repr hgd hu70) rfl T.m_repr (by decide +kernel) (da_cons (dv 6) da_nil)) (set_dct hu)))
  (ds_one (ds_expr (de_append (dv 1) (dv 6)))))
  ds_nil)))))))
  (ds_one (ds_ret (de_and (de_cmp o_le (de_callB c_len rfl T.m_len PySem.boot_len (da_cons (dv 2) da_nil)) de_int (nomark _)) (de_one (de_cmp o_le (dc C_law_end hr hgd rfl (da_cons (dv 0) (da_cons de_bl da_nil))) de_int (nomark _)))))))))

theorem d_law_is_small {P : Program} {w : World} {K : PySem.W.Frag} {mg : Str → Option Value} {base : Heap} {k : Nat} {f : Addr} {fd : FuncData} {sp : DSp} (T : Tx K mg) {sp_law_end : DSp} {sp_law_next : DSp} {sp_law_after : DSp} {sp_law_is_tick : DSp} {sp_law_tidy : DSp} (C_law_end : Callee P w K mg base k "_law_end" P_law_end sp_law_end) (C_law_next : Callee P w K mg base k "_law_next" P_law_next sp_law_next) (C_law_after : Callee P w K mg base k "_law_after" P_law_after sp_law_after) (C_law_is_tick : Callee P w K mg base k "_law_is_tick" P_law_is_tick sp_law_is_tick) (C_law_tidy : Callee P w K mg base k "_law_tidy" P_law_tidy sp_law_tidy) 
    (F : FunD K "_law_is_small" "_law_is_small" (defArgs s_law_is_small) (defBody s_law_is_small) (defScope s_law_is_small) [] [] f fd) (len : ∀ ds G Q E, sp ds G Q E → ds.length = 1)
    (ok : ∀ ds G Q E, sp ds G Q E → (r_law_is_small sp_law_end sp_law_next sp_law_after sp_law_is_tick sp_law_tidy) { nx := fun _ G' => Q .non G', rt := Q } (startD 7 ds) G) : DFn P w K mg base (k + 1) f fd P_law_is_small sp :=
  dfn_of F sc_law_is_small len (b_law_is_small T C_law_end C_law_next C_law_after C_law_is_tick C_law_tidy) ok

theorem k_law_is_small {P : Program} {w : World} {K : PySem.W.Frag} {mg : Str → Option Value} {base : Heap} {k : Nat} {f : Addr} {fd : FuncData} {sp : DSp} (T : Tx K mg) {sp_law_end : DSp} {sp_law_next : DSp} {sp_law_after : DSp} {sp_law_is_tick : DSp} {sp_law_tidy : DSp} (C_law_end : Callee P w K mg base k "_law_end" P_law_end sp_law_end) (C_law_next : Callee P w K mg base k "_law_next" P_law_next sp_law_next) (C_law_after : Callee P w K mg base k "_law_after" P_law_after sp_law_after) (C_law_is_tick : Callee P w K mg base k "_law_is_tick" P_law_is_tick sp_law_is_tick) (C_law_tidy : Callee P w K mg base k "_law_tidy" P_law_tidy sp_law_tidy) 
    (F : FunD K "_law_is_small" "_law_is_small" (defArgs s_law_is_small) (defBody s_law_is_small) (defScope s_law_is_small) [] [] f fd) (hm : mg "_law_is_small" = some (.ref f)) (len : ∀ ds G Q E, sp ds G Q E → ds.length = 1)
    (ok : ∀ ds G Q E, sp ds G Q E → (r_law_is_small sp_law_end sp_law_next sp_law_after sp_law_is_tick sp_law_tidy) { nx := fun _ G' => Q .non G', rt := Q } (startD 7 ds) G) : Callee P w K mg base (k + 1) "_law_is_small" P_law_is_small sp :=
  callee_of F hm (d_law_is_small T C_law_end C_law_next C_law_after C_law_is_tick C_law_tidy F len ok) (fun _ _ _ _ _ _ us hl => match us, hl with | [_], _ => rfl) (fun _ _ _ _ _ _ us hl => match us, hl with | [_], _ => rfl)

abbrev N_law_small_job : List Str := ["_law_feed_here", "_law_deep", "_law_spare", "_law_job_here"]
abbrev P_law_small_job : List Str := ["_law_feed_here", "_law_deep", "_law_spare"]

theorem sc_law_small_job : FnScope N_law_small_job P_law_small_job (defScope s_law_small_job) := ⟨rfl, rfl, rfl, by decide +kernel, rfl, by decide +kernel, by decide +kernel⟩

theorem b_law_small_job {P : Program} {w : World} {K : PySem.W.Frag} {mg : Str → Option Value} {base : Heap} {k : Nat} {f : Addr} (T : Tx K mg) {sp_law_is_small : DSp} {sp_law_rounds : DSp} {sp_law_draw : DSp} {sp_law_job : DSp} (C_law_is_small : Callee P w K mg base k "_law_is_small" P_law_is_small sp_law_is_small) (C_law_rounds : Callee P w K mg base k "_law_rounds" P_law_rounds sp_law_rounds) (C_law_draw : Callee P w K mg base k "_law_draw" P_law_draw sp_law_draw) (C_law_job : Callee P w K mg base k "_law_job" P_law_job sp_law_job)  (cdv : Value) (A : Around) (out : List Env) (st : Shared) (H : Hp) (E : XK)
    (hr : Room k (A.deeper (PyProof.Rows.envOfC "_law_small_job" (defScope s_law_small_job) st.heap.objs.size f cdv))) (hgd : (A.deeper (PyProof.Rows.envOfC "_law_small_job" (defScope s_law_small_job) st.heap.objs.size f cdv)).guards = some []) :
    DSs (cxOf CX0 P w K mg base N_law_small_job "_law_small_job" (defScope s_law_small_job) f cdv A out st H E).nox (defBody s_law_small_job) (r_law_small_job sp_law_is_small sp_law_rounds sp_law_draw sp_law_job) := by
  have SC := sc_law_small_job
  have hu := hu_of hr
  have hu64 := hr.units
  have hu70 := hu70_of hr
  exact (ds_cons (ds_set (i := 3) SC.nd rfl (by first | exact Or.inl rfl | exact Or.inr rfl) (dc C_law_job hr hgd rfl (da_cons (dv 0) (da_cons (dv 1) (da_cons (dv 2) da_nil)))))
  (ds_one (ds_ret (de_if (dt_tru (dc C_law_is_small hr hgd rfl (da_cons (dv 3) da_nil))) (dv 3) (de_ix (dc0 C_law_rounds hr hgd rfl) (dc C_law_draw hr hgd rfl (da_cons (dv 0) (da_cons de_int da_nil))))))))

theorem d_law_small_job {P : Program} {w : World} {K : PySem.W.Frag} {mg : Str → Option Value} {base : Heap} {k : Nat} {f : Addr} {fd : FuncData} {sp : DSp} (T : Tx K mg) {sp_law_is_small : DSp} {sp_law_rounds : DSp} {sp_law_draw : DSp} {sp_law_job : DSp} (C_law_is_small : Callee P w K mg base k "_law_is_small" P_law_is_small sp_law_is_small) (C_law_rounds : Callee P w K mg base k "_law_rounds" P_law_rounds sp_law_rounds) (C_law_draw : Callee P w K mg base k "_law_draw" P_law_draw sp_law_draw) (C_law_job : Callee P w K mg base k "_law_job" P_law_job sp_law_job) 
    (F : FunD K "_law_small_job" "_law_small_job" (defArgs s_law_small_job) (defBody s_law_small_job) (defScope s_law_small_job) [] [] f fd) (len : ∀ ds G Q E, sp ds G Q E → ds.length = 3)
    (ok : ∀ ds G Q E, sp ds G Q E → (r_law_small_job sp_law_is_small sp_law_rounds sp_law_draw sp_law_job) { nx := fun _ G' => Q .non G', rt := Q } (startD 4 ds) G) : DFn P w K mg base (k + 1) f fd P_law_small_job sp :=
  dfn_of F sc_law_small_job len (b_law_small_job T C_law_is_small C_law_rounds C_law_draw C_law_job) ok

theorem k_law_small_job {P : Program} {w : World} {K : PySem.W.Frag} {mg : Str → Option Value} {base : Heap} {k : Nat} {f : Addr} {fd : FuncData} {sp : DSp} (T : Tx K mg) {sp_law_is_small : DSp} {sp_law_rounds : DSp} {sp_law_draw : DSp} {sp_law_job : DSp} (C_law_is_small : Callee P w K mg base k "_law_is_small" P_law_is_small sp_law_is_small) (C_law_rounds : Callee P w K mg base k "_law_rounds" P_law_rounds sp_law_rounds) (C_law_draw : Callee P w K mg base k "_law_draw" P_law_draw sp_law_draw) (C_law_job : Callee P w K mg base k "_law_job" P_law_job sp_law_job) 
    (F : FunD K "_law_small_job" "_law_small_job" (defArgs s_law_small_job) (defBody s_law_small_job) (defScope s_law_small_job) [] [] f fd) (hm : mg "_law_small_job" = some (.ref f)) (len : ∀ ds G Q E, sp ds G Q E → ds.length = 3)
    (ok : ∀ ds G Q E, sp ds G Q E → (r_law_small_job sp_law_is_small sp_law_rounds sp_law_draw sp_law_job) { nx := fun _ G' => Q .non G', rt := Q } (startD 4 ds) G) : Callee P w K mg base (k + 1) "_law_small_job" P_law_small_job sp :=
  callee_of F hm (d_law_small_job T C_law_is_small C_law_rounds C_law_draw C_law_job F len ok) (fun _ _ _ _ _ _ us hl => match us, hl with | [_, _, _], _ => rfl) (fun _ _ _ _ _ _ us hl => match us, hl with | [_, _, _], _ => rfl)

abbrev N_law_agrees : List Str := ["_law_job_here", "_law_before", "_law_due"]
abbrev P_law_agrees : List Str := ["_law_job_here"]

theorem sc_law_agrees : FnScope N_law_agrees P_law_agrees (defScope s_law_agrees) := ⟨rfl, rfl, rfl, by decide +kernel, rfl, by decide +kernel, by decide +kernel⟩

theorem b_law_agrees {P : Program} {w : World} {K : PySem.W.Frag} {mg : Str → Option Value} {base : Heap} {k : Nat} {f : Addr} (T : Tx K mg) {sp_states_of : DSp} {sp_law_states : DSp} (C_states_of : Callee P w K mg base k "states_of" P_states_of sp_states_of) (C_law_states : Callee P w K mg base k "_law_states" P_law_states sp_law_states)  (cdv : Value) (A : Around) (out : List Env) (st : Shared) (H : Hp) (E : XK)
    (hr : Room k (A.deeper (PyProof.Rows.envOfC "_law_agrees" (defScope s_law_agrees) st.heap.objs.size f cdv))) (hgd : (A.deeper (PyProof.Rows.envOfC "_law_agrees" (defScope s_law_agrees) st.heap.objs.size f cdv)).guards = some []) :
    DSs (cxOf CX0 P w K mg base N_law_agrees "_law_agrees" (defScope s_law_agrees) f cdv A out st H E).nox (defBody s_law_agrees) (r_law_agrees sp_states_of sp_law_states) := by
  have SC := sc_law_agrees
  have hu := hu_of hr
  have hu64 := hr.units
  have hu70 := hu70_of hr
  exact (ds_cons (ds_par (i := 1) (j := 2) rfl SC.nd rfl rfl (by decide) rfl rfl (da_cons (de_callB (c_repr hgd hu70) rfl T.m_repr (by decide +kernel) (da_cons (dv 0) da_nil)) (da_cons (dc C_law_states hr hgd rfl (da_cons (dv 0) da_nil)) da_nil)) rfl)
  (ds_one (ds_ret (de_and (de_cmp (o_eq hu64) (de_callB (c_repr hgd hu70) rfl T.m_repr (by decide +kernel) (da_cons (de_frz (de_lst (da_cons (dc C_states_of hr hgd rfl (da_cons (dv 0) da_nil)) (da_cons (dck C_states_of hr hgd rfl (dk_cons (dv 0) dk_nil)) da_nil)))) da_nil)) (de_callB (c_repr hgd hu70) rfl T.m_repr (by decide +kernel) (da_cons (de_frz (de_lst (da_cons (dv 2) (da_cons (dv 2) da_nil)))) da_nil)) (nomark _)) (de_one (de_cmp (o_eq hu64) (de_callB (c_repr hgd hu70) rfl T.m_repr (by decide +kernel) (da_cons (dv 0) da_nil)) (dv 1) (nomark _)))))))

theorem d_law_agrees {P : Program} {w : World} {K : PySem.W.Frag} {mg : Str → Option Value} {base : Heap} {k : Nat} {f : Addr} {fd : FuncData} {sp : DSp} (T : Tx K mg) {sp_states_of : DSp} {sp_law_states : DSp} (C_states_of : Callee P w K mg base k "states_of" P_states_of sp_states_of) (C_law_states : Callee P w K mg base k "_law_states" P_law_states sp_law_states) 
    (F : FunD K "_law_agrees" "_law_agrees" (defArgs s_law_agrees) (defBody s_law_agrees) (defScope s_law_agrees) [] [] f fd) (len : ∀ ds G Q E, sp ds G Q E → ds.length = 1)
    (ok : ∀ ds G Q E, sp ds G Q E → (r_law_agrees sp_states_of sp_law_states) { nx := fun _ G' => Q .non G', rt := Q } (startD 3 ds) G) : DFn P w K mg base (k + 1) f fd P_law_agrees sp :=
  dfn_of F sc_law_agrees len (b_law_agrees T C_states_of C_law_states) ok

theorem k_law_agrees {P : Program} {w : World} {K : PySem.W.Frag} {mg : Str → Option Value} {base : Heap} {k : Nat} {f : Addr} {fd : FuncData} {sp : DSp} (T : Tx K mg) {sp_states_of : DSp} {sp_law_states : DSp} (C_states_of : Callee P w K mg base k "states_of" P_states_of sp_states_of) (C_law_states : Callee P w K mg base k "_law_states" P_law_states sp_law_states) 
    (F : FunD K "_law_agrees" "_law_agrees" (defArgs s_law_agrees) (defBody s_law_agrees) (defScope s_law_agrees) [] [] f fd) (hm : mg "_law_agrees" = some (.ref f)) (len : ∀ ds G Q E, sp ds G Q E → ds.length = 1)
    (ok : ∀ ds G Q E, sp ds G Q E → (r_law_agrees sp_states_of sp_law_states) { nx := fun _ G' => Q .non G', rt := Q } (startD 3 ds) G) : Callee P w K mg base (k + 1) "_law_agrees" P_law_agrees sp :=
  callee_of F hm (d_law_agrees T C_states_of C_law_states F len ok) (fun _ _ _ _ _ _ us hl => match us, hl with | [_], _ => rfl) (fun _ _ _ _ _ _ us hl => match us, hl with | [_], _ => rfl)

abbrev N_law : List Str := ["_law_script", "_law_feed_here", "_law_none", "_law_jobs", "_law_job_here", "_law_turn"]
abbrev P_law : List Str := ["_law_script"]

theorem sc_law : FnScope N_law P_law (defScope s_law) := ⟨rfl, rfl, rfl, by decide +kernel, rfl, by decide +kernel, by decide +kernel⟩

theorem b_law {P : Program} {w : World} {K : PySem.W.Frag} {mg : Str → Option Value} {base : Heap} {k : Nat} {f : Addr} (T : Tx K mg) {sp_law_agrees : DSp} {sp_law_some_job : DSp} {sp_law_rounds : DSp} {sp_law_sides : DSp} {sp_law_draw : DSp} {sp_law_great : DSp} {sp_states_of : DSp} {sp_law_feed : DSp} (C_law_agrees : Callee P w K mg base k "_law_agrees" P_law_agrees sp_law_agrees) (C_law_some_job : Callee P w K mg base k "_law_some_job" P_law_some_job sp_law_some_job) (C_law_rounds : Callee P w K mg base k "_law_rounds" P_law_rounds sp_law_rounds) (C_law_sides : Callee P w K mg base k "_law_sides" P_law_sides sp_law_sides) (C_law_draw : Callee P w K mg base k "_law_draw" P_law_draw sp_law_draw) (C_law_great : Callee P w K mg base k "_law_great" P_law_great sp_law_great) (C_states_of : Callee P w K mg base k "states_of" P_states_of sp_states_of) (C_law_feed : Callee P w K mg base k "_law_feed" P_law_feed sp_law_feed)  (cdv : Value) (A : Around) (out : List Env) (st : Shared) (H : Hp) (E : XK)
    (hr : Room k (A.deeper (PyProof.Rows.envOfC "law" (defScope s_law) st.heap.objs.size f cdv))) (hgd : (A.deeper (PyProof.Rows.envOfC "law" (defScope s_law) st.heap.objs.size f cdv)).guards = some []) :
    DSs (cxOf CX0 P w K mg base N_law "law" (defScope s_law) f cdv A out st H E).nox (defBody s_law) (r_law sp_law_agrees sp_law_some_job sp_law_rounds sp_law_sides sp_law_draw sp_law_great sp_states_of sp_law_feed) := by
  have SC := sc_law
  have hu := hu_of hr
  have hu64 := hr.units
  have hu70 := hu70_of hr
  exact (ds_cons (ds_set (i := 1) SC.nd rfl (by first | exact Or.inl rfl | exact Or.inr rfl) (dc C_law_feed hr hgd rfl (da_cons (dv 0) da_nil)))
  (ds_cons (ds_set (i := 2) SC.nd rfl (by first | exact Or.inl rfl | exact Or.inr rfl) (de_tup (da_cons de_str (da_cons (de_tup da_nil) da_nil))))
  (ds_cons (ds_set (i := 3) SC.nd rfl (by first | exact Or.inl rfl | exact Or.inr rfl) (de_frz (de_lst (da_cons (dv 2) (da_cons (de_tup (da_cons de_str (da_cons (de_tup (da_cons (dv 2) (da_cons (de_tup (da_cons de_str (da_cons (de_tup (da_cons (de_tup (da_cons de_str (da_cons de_int da_nil))) (da_cons (de_tup (da_cons de_str (da_cons de_int da_nil))) da_nil))) da_nil))) da_nil))) da_nil))) (da_cons (de_tup (da_cons de_str (da_cons (de_tup (da_cons (de_tup (da_cons de_str (da_cons de_int da_nil))) (da_cons (dv 2) (da_cons (de_tup (da_cons de_str (da_cons de_int da_nil))) da_nil)))) da_nil))) da_nil))))))
  (ds_cons (ds_if (dt_w (dw_or (dt_cmp (o_ne hu64) (dc C_states_of hr hgd rfl (da_cons (dv 2) da_nil)) (de_tup (da_cons (de_tup (da_cons de_int (da_cons (dv 2) da_nil))) da_nil)) (nomark _)) (dw_or1 (dt_cmp (o_ne hu64) (de_callB c_len rfl T.m_len PySem.boot_len (da_cons (dc C_states_of hr hgd rfl (da_cons (de_ix (dc0 C_law_rounds hr hgd rfl) de_int) da_nil)) da_nil)) de_int (nomark _)))))
  (ds_one (ds_ret de_bl))
  ds_nil)
  (ds_cons (ds_if (dt_w (dw_and (dt_cmp (o_neS hu64) (dv 0) (de_frz (de_lst da_nil)) (nomark _)) (dw_and1 (dt_cmp (o_eq hu64) (dc C_law_draw hr hgd rfl (da_cons (dv 1) (da_cons de_int da_nil))) de_int (nomark _)))))
  (ds_one (ds_set (i := 3) SC.nd rfl (by first | exact Or.inl rfl | exact Or.inr rfl) (de_frz (de_op o_add (dv 3) (de_frz (de_callTy c_list rfl T.m_list (by decide +kernel) (da_cons (dc0 C_law_great hr hgd rfl) da_nil)))))))
  ds_nil)
  (ds_cons (ds_for PassesOwn.never rfl (di_seq (de_frz (de_op o_add (de_frz (de_op o_add (dv 3) (de_frz (de_callTy c_list rfl T.m_list (by decide +kernel) (da_cons (dc0 C_law_rounds hr hgd rfl) da_nil))))) (de_frz (de_lst (da_cons (dc0 C_law_sides hr hgd rfl) da_nil)))))) (dg_name (i := 4) SC.nd rfl (by first | exact Or.inl rfl | exact Or.inr rfl))
  (ds_one (ds_if (dt_not (dt_tru (dc C_law_agrees hr hgd rfl (da_cons (dv 4) da_nil))))
  (ds_one (ds_ret de_bl))
  ds_nil)))
  (ds_cons (ds_for PassesOwn.never rfl (di_range1 rfl T.m_range (da_cons de_int da_nil)) (dg_name (i := 5) SC.nd rfl (by first | exact Or.inl rfl | exact Or.inr rfl))
  (ds_one (ds_if (dt_not (dt_tru (dc C_law_agrees hr hgd rfl (da_cons (dc C_law_some_job hr hgd rfl (da_cons (dv 1) (da_cons de_int da_nil))) da_nil))))
  (ds_one (ds_ret de_bl))
  ds_nil)))
  (ds_one (ds_ret de_bl)))))))))

end K23

namespace K23
open PySem L2 Dl K17 K18 K24
open PyProof.Rows
section
variable {P : Program} {w : World} {K : PySem.W.Frag} {h : Heap} {mg : Str → Option Value}
theorem tx_of (X : K.In h) (G : h.Ns mainGlobals mg) (c : SaysX fx fn K) : Tx K mg := ⟨He.free_ok X G (c.fact 27 (f := .free "enumerate") rfl), He.free_ok X G (c.fact 28 (f := .free "int") rfl), He.free_ok X G (c.fact 29 (f := .free "isinstance") rfl), He.free_ok X G (c.fact 30 (f := .free "len") rfl), He.free_ok X G (c.fact 31 (f := .free "list") rfl), He.free_ok X G (c.fact 32 (f := .free "max") rfl), He.free_ok X G (c.fact 33 (f := .free "min") rfl), He.free_ok X G (c.fact 34 (f := .free "range") rfl), He.free_ok X G (c.fact 35 (f := .free "repr") rfl), He.free_ok X G (c.fact 36 (f := .free "sorted") rfl), He.free_ok X G (c.fact 37 (f := .free "sum") rfl), He.free_ok X G (c.fact 38 (f := .free "tuple") rfl), dat_ok X G (c.fact 39 (f := .dat "OVER" (.tup [.str "row", .tup []])) rfl), dat_ok X G (c.fact 40 (f := .dat "TICK" (.str "tick")) rfl), dat_ok X G (c.fact 41 (f := .dat "MORE" (.str "more")) rfl), dat_ok X G (c.fact 42 (f := .dat "END" (.str "end")) rfl)⟩
end
theorem noRT0 (ds : List D) (G : GH) (Q : DK) (E : DXK) : ¬ pSp (RT 0) ds G Q E := fun ⟨_, ⟨w, _, _, _, h, _⟩, _⟩ => by cases w <;> simp only [dpW] at h <;> omega
theorem noRS0 (ds : List D) (G : GH) (Q : DK) (E : DXK) : ¬ pSp (RS 0) ds G Q E := fun ⟨_, ⟨w, _, _, _, h, _⟩, _⟩ => by cases w <;> simp only [dpW] at h <;> omega
theorem noRX0 (ds : List D) (G : GH) (Q : DK) (E : DXK) : ¬ pSp (RX 0) ds G Q E := fun ⟨_, ⟨w, _, _, _, h, _⟩, _⟩ => by cases w <;> simp only [dpW] at h <;> omega
theorem noRH0 (ds : List D) (G : GH) (Q : DK) (E : DXK) : ¬ pSp (RH 0) ds G Q E := fun ⟨_, ⟨w, s, _, _, _, h, _⟩, _⟩ => by cases w <;> simp only [dpW] at h <;> omega
theorem noEnd0 (ds : List D) (G : GH) (Q : DK) (E : DXK) : ¬ spEnd 0 ds G Q E := fun ⟨w, _, _, _, _, h, _⟩ => by cases w <;> simp only [dpW] at h <;> omega
theorem noJob0 (ds : List D) (G : GH) (Q : DK) (E : DXK) : ¬ spJob 0 ds G Q E := fun ⟨_, _, _, _, _, h0, h1, _⟩ => by omega

theorem facts {P : Program} {w : World} {K : PySem.W.Frag} {h : Heap} {mg : Str → Option Value} {f : Addr} (X : K.In h) (G : h.Ns mainGlobals mg) (hfa : mg ("law" : Str) = some (.ref f)) (c : SaysX fx fn K) :
    ∃ fd : FuncData, (∀ (s : Shared) (v : Value), BindsTo s fd ⟨[v], []⟩ [("_law_script", v)]) ∧ ∀ base : Heap, K.In base → base.Ns mainGlobals mg → DFn P w K mg base 177 f fd ["_law_script"] spLaw := by
  have T : Tx K mg := tx_of X G c
  obtain ⟨fd_tidy, F_tidy⟩ := c.def_ 0 (d := d_tidy_) rfl
  have m_tidy := He.glo_ok X G (c.fact 0 (f := .glo "tidy") rfl)
  obtain ⟨fd_ticks_left, F_ticks_left⟩ := c.def_ 1 (d := d_ticks_left_) rfl
  have m_ticks_left := He.glo_ok X G (c.fact 1 (f := .glo "ticks_left") rfl)
  obtain ⟨fd_some_steps, F_some_steps⟩ := c.def_ 2 (d := d_some_steps_) rfl
  have m_some_steps := He.glo_ok X G (c.fact 2 (f := .glo "some_steps") rfl)
  obtain ⟨fd_loop_steps, F_loop_steps⟩ := c.def_ 3 (d := d_loop_steps_) rfl
  have m_loop_steps := He.glo_ok X G (c.fact 3 (f := .glo "loop_steps") rfl)
  obtain ⟨fd_beside_steps, F_beside_steps⟩ := c.def_ 4 (d := d_beside_steps_) rfl
  have m_beside_steps := He.glo_ok X G (c.fact 4 (f := .glo "beside_steps") rfl)
  obtain ⟨fd_steps_of, F_steps_of⟩ := c.def_ 5 (d := d_steps_of_) rfl
  have m_steps_of := He.glo_ok X G (c.fact 5 (f := .glo "steps_of") rfl)
  obtain ⟨fd_is_tick, F_is_tick⟩ := c.def_ 6 (d := d_is_tick_) rfl
  have m_is_tick := He.glo_ok X G (c.fact 6 (f := .glo "is_tick") rfl)
  obtain ⟨fd_states_of, F_states_of⟩ := c.def_ 7 (d := d_states_of_) rfl
  have m_states_of := He.glo_ok X G (c.fact 7 (f := .glo "states_of") rfl)
  obtain ⟨fd_law_feed, F_law_feed⟩ := c.def_ 8 (d := d_law_feed_) rfl
  have m_law_feed := He.glo_ok X G (c.fact 8 (f := .glo "_law_feed") rfl)
  obtain ⟨fd_law_draw, F_law_draw⟩ := c.def_ 9 (d := d_law_draw_) rfl
  have m_law_draw := He.glo_ok X G (c.fact 9 (f := .glo "_law_draw") rfl)
  obtain ⟨fd_law_tidy, F_law_tidy⟩ := c.def_ 10 (d := d_law_tidy_) rfl
  have m_law_tidy := He.glo_ok X G (c.fact 10 (f := .glo "_law_tidy") rfl)
  obtain ⟨fd_law_next, F_law_next⟩ := c.def_ 11 (d := d_law_next_) rfl
  have m_law_next := He.glo_ok X G (c.fact 11 (f := .glo "_law_next") rfl)
  obtain ⟨fd_law_behind, F_law_behind⟩ := c.def_ 12 (d := d_law_behind_) rfl
  have m_law_behind := He.glo_ok X G (c.fact 12 (f := .glo "_law_behind") rfl)
  obtain ⟨fd_law_after, F_law_after⟩ := c.def_ 13 (d := d_law_after_) rfl
  have m_law_after := He.glo_ok X G (c.fact 13 (f := .glo "_law_after") rfl)
  obtain ⟨fd_law_is_tick, F_law_is_tick⟩ := c.def_ 14 (d := d_law_is_tick_) rfl
  have m_law_is_tick := He.glo_ok X G (c.fact 14 (f := .glo "_law_is_tick") rfl)
  obtain ⟨fd_law_runs, F_law_runs⟩ := c.def_ 15 (d := d_law_runs_) rfl
  have m_law_runs := He.glo_ok X G (c.fact 15 (f := .glo "_law_runs") rfl)
  obtain ⟨fd_law_end, F_law_end⟩ := c.def_ 16 (d := d_law_end_) rfl
  have m_law_end := He.glo_ok X G (c.fact 16 (f := .glo "_law_end") rfl)
  obtain ⟨fd_law_states, F_law_states⟩ := c.def_ 17 (d := d_law_states_) rfl
  have m_law_states := He.glo_ok X G (c.fact 17 (f := .glo "_law_states") rfl)
  obtain ⟨fd_law_rounds, F_law_rounds⟩ := c.def_ 18 (d := d_law_rounds_) rfl
  have m_law_rounds := He.glo_ok X G (c.fact 18 (f := .glo "_law_rounds") rfl)
  obtain ⟨fd_law_job, F_law_job⟩ := c.def_ 19 (d := d_law_job_) rfl
  have m_law_job := He.glo_ok X G (c.fact 19 (f := .glo "_law_job") rfl)
  obtain ⟨fd_law_some_job, F_law_some_job⟩ := c.def_ 20 (d := d_law_some_job_) rfl
  have m_law_some_job := He.glo_ok X G (c.fact 20 (f := .glo "_law_some_job") rfl)
  obtain ⟨fd_law_sides, F_law_sides⟩ := c.def_ 21 (d := d_law_sides_) rfl
  have m_law_sides := He.glo_ok X G (c.fact 21 (f := .glo "_law_sides") rfl)
  obtain ⟨fd_law_great, F_law_great⟩ := c.def_ 22 (d := d_law_great_) rfl
  have m_law_great := He.glo_ok X G (c.fact 22 (f := .glo "_law_great") rfl)
  obtain ⟨fd_law_is_small, F_law_is_small⟩ := c.def_ 23 (d := d_law_is_small_) rfl
  have m_law_is_small := He.glo_ok X G (c.fact 23 (f := .glo "_law_is_small") rfl)
  obtain ⟨fd_law_small_job, F_law_small_job⟩ := c.def_ 24 (d := d_law_small_job_) rfl
  have m_law_small_job := He.glo_ok X G (c.fact 24 (f := .glo "_law_small_job") rfl)
  obtain ⟨fd_law_agrees, F_law_agrees⟩ := c.def_ 25 (d := d_law_agrees_) rfl
  have m_law_agrees := He.glo_ok X G (c.fact 25 (f := .glo "_law_agrees") rfl)
  obtain ⟨fd_law, F_law⟩ := c.def_ 26 (d := d_law_) rfl
  have m_law := He.glo_ok X G (c.fact 26 (f := .glo "law") rfl)
  have e := hfa.symm.trans m_law
  cases e
  have b := FunD.bindsA (ps := ["_law_script"]) F_law fun _ _ _ _ _ _ us hl => match us, hl with | [_], _ => rfl
  refine ⟨fd_law, fun s v => b s [v] rfl, fun base _ _ => ?_⟩
  clear X G c hfa
  have C_tidy : ∀ n, n ≤ 60 → Callee P w K mg base (n + 0) "tidy" P_tidy (pSp (RT n)) := by
    intro n
    induction n with
    | zero => exact fun _ => (z_tidy F_tidy m_tidy noRT0).up (by omega)
    | succ n ih => exact fun hn => k_tidy T (ih (by omega)) F_tidy m_tidy (fun _ _ _ _ h => by obtain ⟨_, ⟨_, rfl, _⟩, _⟩ := h; rfl) (tidy_rd hn)
  have C_loop_steps := k_loop_steps (P := P) (w := w) (base := base) (k := 60) T ((C_tidy 60 (by decide)).up (by omega)) F_loop_steps m_loop_steps (fun _ _ _ _ h => by obtain ⟨_, ⟨_, _, _, _, rfl, _⟩, _⟩ := h; rfl) loop_steps_rd
  have C_ticks_left := k_ticks_left (P := P) (w := w) (base := base) (k := 0) T  F_ticks_left m_ticks_left (fun _ _ _ _ h => by obtain ⟨_, ⟨_, rfl, _⟩, _⟩ := h; rfl) ticks_left_rd
  have C_some_steps := k_some_steps (P := P) (w := w) (base := base) (k := 1) T (C_ticks_left.up (by omega)) F_some_steps m_some_steps (fun _ _ _ _ h => by obtain ⟨_, ⟨_, _, _, rfl, _⟩, _⟩ := h; rfl) some_steps_rd
  have C_steps_of : ∀ n, n ≤ 56 → Callee P w K mg base (62 + 2 * n) "steps_of" P_steps_of (pSp (RS n)) := by
    intro n
    induction n with
    | zero => exact fun _ => (z_steps_of F_steps_of m_steps_of noRS0).up (by omega)
    | succ n ih =>
      intro hn
      have S := ih (by omega)
      have B := k_beside_steps (k := 62 + 2 * n) T S ((C_tidy 60 (by decide)).up (by omega)) F_beside_steps m_beside_steps (fun _ _ _ _ h => by obtain ⟨_, ⟨_, _, rfl, _⟩, _⟩ := h; rfl) (beside_steps_rd (n := n) (by omega))
      rw [show 62 + 2 * (n + 1) = 63 + 2 * n + 1 from by omega]
      exact k_steps_of (k := 63 + 2 * n) T ((C_tidy 60 (by decide)).up (by omega)) (S.up (by omega)) (B.up (by omega)) (C_loop_steps.up (by omega)) (C_some_steps.up (by omega)) (C_ticks_left.up (by omega)) F_steps_of m_steps_of (fun _ _ _ _ h => by obtain ⟨_, ⟨_, rfl, _⟩, _⟩ := h; rfl) (steps_of_rd hn)
  have C_is_tick := k_is_tick (P := P) (w := w) (base := base) (k := 0) T  F_is_tick m_is_tick (fun _ _ _ _ h => by obtain ⟨_, ⟨_, rfl, _⟩, _⟩ := h; rfl) is_tick_rd
  have C_states_of := k_states_of (P := P) (w := w) (base := base) (k := 174) T ((C_steps_of 56 (by decide)).up (by omega)) (C_is_tick.up (by omega)) ((C_tidy 60 (by decide)).up (by omega)) F_states_of m_states_of (fun _ _ _ _ h => by obtain ⟨_, rfl, _⟩ := h; rfl) states_of_rd
  have C_law_next : ∀ n, n ≤ 56 → Callee P w K mg base (n + 0) "_law_next" P_law_next (pSp (RX n)) := by
    intro n
    induction n with
    | zero => exact fun _ => (z_law_next F_law_next m_law_next noRX0).up (by omega)
    | succ n ih => exact fun hn => k_law_next T (ih (by omega)) F_law_next m_law_next (fun _ _ _ _ h => by obtain ⟨_, ⟨_, rfl, _⟩, _⟩ := h; rfl) (law_next_rd hn)
  have C_law_tidy : ∀ n, n ≤ 60 → Callee P w K mg base (n + 0) "_law_tidy" P_law_tidy (pSp (RT n)) := by
    intro n
    induction n with
    | zero => exact fun _ => (z_law_tidy F_law_tidy m_law_tidy noRT0).up (by omega)
    | succ n ih => exact fun hn => k_law_tidy T (ih (by omega)) F_law_tidy m_law_tidy (fun _ _ _ _ h => by obtain ⟨_, ⟨_, rfl, _⟩, _⟩ := h; rfl) (law_tidy_rd hn)
  have C_law_behind : ∀ n, n ≤ 56 → Callee P w K mg base (n + 0) "_law_behind" P_law_behind (pSp (RH n)) := by
    intro n
    induction n with
    | zero => exact fun _ => (z_law_behind F_law_behind m_law_behind noRH0).up (by omega)
    | succ n ih => exact fun hn => k_law_behind T (ih (by omega)) F_law_behind m_law_behind (fun _ _ _ _ h => by obtain ⟨_, ⟨_, _, rfl, _⟩, _⟩ := h; rfl) (law_behind_rd hn)
  have C_law_after := k_law_after (P := P) (w := w) (base := base) (k := 60) T ((C_law_tidy 60 (by decide)).up (by omega)) ((C_law_behind 56 (by decide)).up (by omega)) F_law_after m_law_after (fun _ _ _ _ h => by obtain ⟨_, ⟨_, _, rfl, _⟩, _⟩ := h; rfl) law_after_rd
  have C_law_is_tick : ∀ n, n ≤ 60 → Callee P w K mg base (n + 0) "_law_is_tick" P_law_is_tick (pSp (RIt n)) := by
    intro n
    induction n with
    | zero => exact fun _ => (z_law_is_tick F_law_is_tick m_law_is_tick noRIt0).up (by omega)
    | succ n ih => exact fun hn => k_law_is_tick T (ih (by omega)) F_law_is_tick m_law_is_tick (fun _ _ _ _ h => by obtain ⟨_, ⟨_, rfl, _⟩, _⟩ := h; rfl) (K24.law_is_tick_rd)
  have C_law_states := k_law_states (P := P) (w := w) (base := base) (k := 61) T ((C_law_next 56 (by decide)).up (by omega)) (C_law_after.up (by omega)) ((C_law_is_tick 40 (by decide)).up (by omega)) ((C_law_tidy 60 (by decide)).up (by omega)) F_law_states m_law_states (fun _ _ _ _ h => by obtain ⟨_, rfl, _⟩ := h; rfl) law_states_rd
  have C_law_agrees := k_law_agrees (P := P) (w := w) (base := base) (k := 175) T (C_states_of.up (by omega)) (C_law_states.up (by omega)) F_law_agrees m_law_agrees (fun _ _ _ _ h => by obtain ⟨_, rfl, _⟩ := h; rfl) law_agrees_rd
  have C_law_runs := k_law_runs (P := P) (w := w) (base := base) (k := 61) T (C_law_after.up (by omega)) ((C_law_next 56 (by decide)).up (by omega)) ((C_law_tidy 60 (by decide)).up (by omega)) F_law_runs m_law_runs (fun _ _ _ _ h => by obtain ⟨_, ⟨_, _, rfl, _⟩, _⟩ := h; rfl) law_runs_rd
  have C_law_rounds := k_law_rounds (P := P) (w := w) (base := base) (k := 0) T  F_law_rounds m_law_rounds (fun _ _ _ _ h => by obtain ⟨_, ⟨rfl, _⟩, _⟩ := h; rfl) law_rounds_rd
  have C_law_draw := k_law_draw (P := P) (w := w) (base := base) (k := 0) T  F_law_draw m_law_draw (fun _ _ _ _ h => by obtain ⟨_, _, rfl, _⟩ := h; rfl) law_draw_rd
  have C_law_end : ∀ n, n ≤ 60 → Callee P w K mg base (n + 0) "_law_end" P_law_end (spEnd n) := by
    intro n
    induction n with
    | zero => exact fun _ => (z_law_end F_law_end m_law_end noEnd0).up (by omega)
    | succ n ih => exact fun hn => k_law_end T (ih (by omega)) F_law_end m_law_end (fun _ _ _ _ h => by obtain ⟨_, _, rfl, _⟩ := h; rfl) (law_end_rd)
  have C_law_is_small := k_law_is_small (P := P) (w := w) (base := base) (k := 61) T ((C_law_end 30 (by decide)).up (by omega)) ((C_law_next 56 (by decide)).up (by omega)) (C_law_after.up (by omega)) ((C_law_is_tick 40 (by decide)).up (by omega)) ((C_law_tidy 60 (by decide)).up (by omega)) F_law_is_small m_law_is_small (fun _ _ _ _ h => by obtain ⟨_, rfl, _⟩ := h; rfl) law_is_small_rd
  have C_law_job : ∀ n, n ≤ 4 → Callee P w K mg base (n + 1) "_law_job" P_law_job (spJob n) := by
    intro n
    induction n with
    | zero => exact fun _ => (z_law_job F_law_job m_law_job noJob0).up (by omega)
    | succ n ih => exact fun hn => k_law_job T (C_law_draw.up (by omega)) (ih (by omega)) F_law_job m_law_job (fun _ _ _ _ h => by obtain ⟨_, _, _, rfl, _⟩ := h; rfl) (law_job_rd)
  have C_law_small_job := k_law_small_job (P := P) (w := w) (base := base) (k := 62) T (C_law_is_small.up (by omega)) (C_law_rounds.up (by omega)) (C_law_draw.up (by omega)) ((C_law_job 4 (by decide)).up (by omega)) F_law_small_job m_law_small_job (fun _ _ _ _ h => by obtain ⟨_, _, rfl, _⟩ := h; rfl) law_small_job_rd
  have C_law_some_job := k_law_some_job (P := P) (w := w) (base := base) (k := 63) T (C_law_runs.up (by omega)) (C_law_rounds.up (by omega)) (C_law_draw.up (by omega)) (C_law_small_job.up (by omega)) F_law_some_job m_law_some_job (fun _ _ _ _ h => by obtain ⟨_, rfl, _⟩ := h; rfl) law_some_job_rd
  have C_law_sides := k_law_sides (P := P) (w := w) (base := base) (k := 0) T  F_law_sides m_law_sides (fun _ _ _ _ h => by obtain ⟨_, ⟨rfl, _⟩, _⟩ := h; rfl) law_sides_rd
  have C_law_great := k_law_great (P := P) (w := w) (base := base) (k := 0) T  F_law_great m_law_great (fun _ _ _ _ h => by obtain ⟨_, ⟨rfl, _⟩, _⟩ := h; rfl) law_great_rd
  have C_law_feed := k_law_feed (P := P) (w := w) (base := base) (k := 0) T  F_law_feed m_law_feed (fun _ _ _ _ h => by obtain ⟨_, rfl, _⟩ := h; rfl) law_feed_rd
  exact dfn_of (k := 176) F_law sc_law (fun _ _ _ _ h => by obtain ⟨_, rfl, _⟩ := h; rfl) (b_law T (C_law_agrees.up (by omega)) (C_law_some_job.up (by omega)) (C_law_rounds.up (by omega)) (C_law_sides.up (by omega)) (C_law_draw.up (by omega)) (C_law_great.up (by omega)) (C_states_of.up (by omega)) (C_law_feed.up (by omega))) law_rd
end K23
theorem PySem.Challenge.cw_honestbars_k23_states_told_holds : PySem.Challenge.rw_honestbars_k23_states_told.Holds :=
  K23.head_of (sp := K17.spLaw) (fun ns hl => ⟨ns, rfl, fun _ => rfl⟩) fun w mg fa h K KX c G hmg => K23.facts KX G hmg c


