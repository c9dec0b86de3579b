import PyProof.Rows.All
import Wide.All
import OpenK.AllK
import Wide.FinOn
import HandS.ForMost
import HandS.Walk
import HandS.Zip
import HandS.IsInst
import HandS.RaiseMore
import HandS.TupAny
import HandS.Wide
import KE.DataEq
import KE.KTupSum
import KE.DataMinMax
import KE.DataAny
import PyProof.ReprRoads
import HandS.TupMul
import HandS.SortInts
import PyProof.Rows.IntBool
import PyProof.ReprLen
import PyProof.FitsInt
import KE.GoesEnum
import HandS.Style
import HandS.Star
import HandS.Conv
import HandS.TupSets
import PyProof.Rows.ReprOcc
import HandS.Deep
import HandS.Strs
import HandS.NoneIn
import HandS.Rev
import PyProof.ListNew
import HandS.NamedTupSort
import HandS.SortRule
import HandS.Zip0
import HandS.ExcSuper
import HandS.ExcInit
import KE.KSuper
import HandS.Call
import HandS.ExcValue
import HandS.TryMany
import HandS.ExcField
import HandS.ExcIs
import HandS.WordsExc
import PySem.Challenge.RW_foralldeciders_k18_whole_distances
set_option Elab.async false
set_option linter.all false
set_option maxRecDepth 100000
set_option maxHeartbeats 4000000
/-! Fd, part P: the law's own pot: a dict of a list of great cells, a number, a count. -/
namespace Fd
open PySem PySem.Spec PyProof.Rows L2
def potKv (ag : Addr) (m t : Int) : List (Key × V) := [(.inr "great", .ref ag), (.inr "stirred", .int m), (.inr "turn", .int t)]
/-- the pot at ap, its list at ag -/
def PotJ (ap ag : Addr) (b : Nat) (H : Hp) : Prop := ap ≠ ag ∧ ∃ (gs : List Int) (m t : Int), H ap = some (.dK (potKv ag m t)) ∧ H ag = some (.lst (gs.map V.int)) ∧ gs.length ≤ 63 ∧ (∀ g ∈ gs, 0 ≤ g) ∧ 0 ≤ m ∧ m < 4294967291 ∧ 0 ≤ t ∧ t + (b : Int) ≤ 2 ^ 1000
theorem potJ_loc {ap ag : Addr} {b : Nat} {H H' : Hp} (h1 : H' ap = H ap) (h2 : H' ag = H ag) (h : PotJ ap ag b H) : PotJ ap ag b H' := by
  obtain ⟨ne, gs, m, t, e1, e2, r⟩ := h
  exact ⟨ne, gs, m, t, h1.trans e1, h2.trans e2, r⟩
theorem potJ_there {ap ag : Addr} {b : Nat} {H : Hp} (h : PotJ ap ag b H) : (∃ o, H ap = some o) ∧ ∃ o, H ag = some o := by
  obtain ⟨ne, gs, m, t, e1, e2, r⟩ := h
  exact ⟨⟨_, e1⟩, ⟨_, e2⟩⟩
theorem potJ_tup {ap ag : Addr} {b : Nat} {H : Hp} (h : PotJ ap ag b H) (xs : List V) : H ap ≠ some (.tup xs) ∧ H ag ≠ some (.tup xs) := by
  obtain ⟨ne, gs, m, t, e1, e2, r⟩ := h
  exact ⟨fun z => (by rw [e1] at z; cases z), fun z => (by rw [e2] at z; cases z)⟩
theorem potJ_le {ap ag : Addr} {b b' : Nat} {H : Hp} (h : PotJ ap ag b H) (l : b' ≤ b) : PotJ ap ag b' H := by
  obtain ⟨ne, gs, m, t, e1, e2, r1, r2, r3, r4, r5, r6⟩ := h
  exact ⟨ne, gs, m, t, e1, e2, r1, r2, r3, r4, r5, by omega⟩
end Fd

set_option Elab.async false
set_option linter.all false
set_option maxRecDepth 100000
set_option maxHeartbeats 4000000
/-! Fd, part A: pure data over the layer's heap: values as data, slots, the relation, the judgements. -/
namespace Fd
open PySem PySem.Spec PyProof.Rows L2

/-- a dict's key as data -/
def kD : Key → PyData
  | .inl i => .int i
  | .inr s => .str s
mutual
/-- a value is such data, in what the heap tells -/
inductive Dat (K : PySem.W.Frag) (H : Hp) : V → PyData → Prop
  | non : Dat K H .non .none
  | bl (b : Bool) : Dat K H (.bl b) (.bool b)
  | int (i : Int) : Dat K H (.int i) (.int i)
  | str (x : Str) : Dat K H (.str x) (.str x)
  | lst {a : Addr} {xs : List V} {ds : List PyData} : H a = some (.lst xs) → Dats K H xs ds → Dat K H (.ref a) (.list ds)
  | tup {a : Addr} {xs : List V} {ds : List PyData} : H a = some (.tup xs) → Dats K H xs ds → Dat K H (.ref a) (.tuple ds)
  | dct {a : Addr} {kvs : List (Key × V)} {ds : List PyData} : H a = some (.dK kvs) → Dats K H (kvs.map (·.2)) ds → Dat K H (.ref a) (.dict ((kvs.map fun p => kD p.1).zip ds))
inductive Dats (K : PySem.W.Frag) (H : Hp) : List V → List PyData → Prop
  | nil : Dats K H [] []
  | cons {v : V} {vs : List V} {d : PyData} {ds : List PyData} : Dat K H v d → Dats K H vs ds → Dats K H (v :: vs) (d :: ds)
end
section
variable {K : PySem.W.Frag} {G H : Hp} {a : Addr} {xs : List V}
theorem sameT (e : Same G H) (h : SqT K G a xs) : SqT K H a xs := by
  rcases h with (h | ⟨o, h⟩) | h
  · exact .inl (.inl (e _ _ h))
  · exact .inl (.inr ⟨o, e _ _ h⟩)
  · exact .inr h
mutual
theorem Dat.mono (h : Same G H) : ∀ {v : V} {d : PyData}, Dat K G v d → Dat K H v d
  | _, _, .non => .non
  | _, _, .bl b => .bl b
  | _, _, .int i => .int i
  | _, _, .str x => .str x
  | _, _, .lst s t => .lst (h _ _ s) (Dats.mono h t)
  | _, _, .tup s t => .tup (h _ _ s) (Dats.mono h t)
  | _, _, .dct s t => .dct (h _ _ s) (Dats.mono h t)
theorem Dats.mono (h : Same G H) : ∀ {vs : List V} {ds : List PyData}, Dats K G vs ds → Dats K H vs ds
  | _, _, .nil => .nil
  | _, _, .cons s t => .cons (Dat.mono h s) (Dats.mono h t)
end
theorem Dats.len : ∀ {vs : List V} {ds : List PyData}, Dats K G vs ds → vs.length = ds.length
  | _, _, .nil => rfl
  | _, _, .cons _ t => by rw [List.length_cons, List.length_cons, t.len]
theorem Dats.app : ∀ {vs ws : List V} {ds es : List PyData}, Dats K G vs ds → Dats K G ws es → Dats K G (vs ++ ws) (ds ++ es)
  | _, _, _, _, .nil, q => q
  | _, _, _, _, .cons s t, q => .cons s (t.app q)
theorem Dats.one {v : V} {d : PyData} (h : Dat K G v d) : Dats K G [v] [d] := .cons h .nil
theorem Dats.get : ∀ {vs : List V} {ds : List PyData} {i : Nat} {d : PyData}, Dats K G vs ds → ds[i]? = some d → ∃ v, vs[i]? = some v ∧ Dat K G v d
  | _, _, _, _, .nil, e => by simp at e
  | _, _, 0, _, .cons s _, e => by simp at e; subst e; exact ⟨_, rfl, s⟩
  | _, _, i + 1, d, .cons _ t, e => by
    obtain ⟨v, h1, h2⟩ := Dats.get (i := i) (d := d) t (by simpa using e)
    exact ⟨v, by simpa using h1, h2⟩
theorem Dats.getV {vs : List V} {ds : List PyData} {i : Nat} {v : V} (h : Dats K G vs ds) (e : vs[i]? = some v) : ∃ d, ds[i]? = some d ∧ Dat K G v d := by
  have hl := h.len
  have hi : i < vs.length := by
    rcases Nat.lt_or_ge i vs.length with q | q
    · exact q
    · rw [List.getElem?_eq_none q] at e; cases e
  obtain ⟨w, h1, h2⟩ := h.get (i := i) (d := ds[i]'(by omega)) (List.getElem?_eq_getElem _)
  rw [e] at h1; cases h1
  exact ⟨_, List.getElem?_eq_getElem _, h2⟩
theorem Dats.take : ∀ {vs : List V} {ds : List PyData} (n : Nat), Dats K G vs ds → Dats K G (vs.take n) (ds.take n)
  | _, _, 0, _ => .nil
  | _, _, _ + 1, .nil => .nil
  | _, _, n + 1, .cons s t => .cons s (t.take n)
theorem Dats.drop : ∀ {vs : List V} {ds : List PyData} (n : Nat), Dats K G vs ds → Dats K G (vs.drop n) (ds.drop n)
  | _, _, 0, q => q
  | _, _, _ + 1, .nil => .nil
  | _, _, n + 1, .cons _ t => t.drop n
theorem Dats.set {v : V} {d : PyData} (h : Dat K G v d) : ∀ {vs : List V} {ds : List PyData} (i : Nat), Dats K G vs ds → Dats K G (vs.set i v) (ds.set i d)
  | _, _, _, .nil => .nil
  | _, _, 0, .cons _ t => .cons h t
  | _, _, i + 1, .cons s t => .cons s (t.set h i)
theorem Dats.erase : ∀ {vs : List V} {ds : List PyData} (i : Nat), Dats K G vs ds → Dats K G (vs.eraseIdx i) (ds.eraseIdx i)
  | _, _, _, .nil => .nil
  | _, _, 0, .cons _ t => t
  | _, _, i + 1, .cons s t => .cons s (t.erase i)
theorem Dats.dropLast {vs : List V} {ds : List PyData} (h : Dats K G vs ds) : Dats K G vs.dropLast ds.dropLast := by
  rw [List.dropLast_eq_take, List.dropLast_eq_take, h.len]
  exact h.take _
theorem Dats.ints : ∀ {vs : List V} {ns : List Int}, Dats K G vs (ns.map PyData.int) → vs = ns.map V.int
  | _, [], .nil => rfl
  | _, _ :: _, .cons s t => by
    cases s
    rw [t.ints]
    rfl
theorem Dats.bls : ∀ {vs : List V} {ns : List Bool}, Dats K G vs (ns.map PyData.bool) → vs = ns.map V.bl
  | _, [], .nil => rfl
  | _, _ :: _, .cons s t => by
    cases s
    rw [t.bls]
    rfl
theorem dats_ints : ∀ (ns : List Int), Dats K G (ns.map V.int) (ns.map PyData.int)
  | [] => .nil
  | n :: ns => .cons (.int n) (dats_ints ns)
end

/-! ### the pot and other things beside data -/
/-- the pot: its address, its list's; whether it is there -/
structure Pt where
  ap : Addr
  ag : Addr
  on : Bool
def Pt.pots (pt : Pt) : List Addr := if pt.on = true then [pt.ap, pt.ag] else []
def Pt.J (pt : Pt) (b : Nat) (H : Hp) : Prop := pt.on = true → PotJ pt.ap pt.ag b H
theorem Pt.le (pt : Pt) {b b' : Nat} {H : Hp} (j : pt.J b H) (l : b' ≤ b) : pt.J b' H := fun o => potJ_le (j o) l
theorem Pt.mem {pt : Pt} {a : Addr} (h : a ∈ pt.pots) : pt.on = true ∧ (a = pt.ap ∨ a = pt.ag) := by
  unfold Pt.pots at h
  split at h
  · exact ⟨by assumption, by simpa using h⟩
  · cases h
theorem Pt.in1 {pt : Pt} (h : pt.on = true) : pt.ap ∈ pt.pots := by
  unfold Pt.pots
  rw [if_pos h]
  exact List.mem_cons_self
theorem Pt.in2 {pt : Pt} (h : pt.on = true) : pt.ag ∈ pt.pots := by
  unfold Pt.pots
  rw [if_pos h]
  exact List.mem_cons_of_mem _ List.mem_cons_self
theorem Pt.loc (pt : Pt) {b : Nat} (H H' : Hp) (h : ∀ a ∈ pt.pots, H' a = H a) (j : pt.J b H) : pt.J b H' := fun o => potJ_loc (h _ (Pt.in1 o)) (h _ (Pt.in2 o)) (j o)
theorem Pt.there (pt : Pt) {b : Nat} (H : Hp) (j : pt.J b H) : ∀ a ∈ pt.pots, ∃ o, H a = some o := fun a ha => by
  obtain ⟨o, z⟩ := Pt.mem ha
  obtain ⟨h1, h2⟩ := potJ_there (j o)
  rcases z with z | z
  · rw [z]; exact h1
  · rw [z]; exact h2
/-- what a name may hold: data, the pot, a thing as it is -/
inductive U where
  | d (x : PyData) | pot | raw (v : V) | scr (ds : List PyData) | tdic (kvs : List (List Int × PyData)) | fz (ds : List PyData)
/-- a dict whose keys are tuples of ints -/
def DicD (K : PySem.W.Frag) (G : Hp) (ws : List (List Key × V)) (kvs : List (List Int × PyData)) : Prop := ws.map (·.1) = kvs.map (fun p => p.1.map Sum.inl) ∧ Dats K G (ws.map (·.2)) (kvs.map (·.2))
def UD (K : PySem.W.Frag) (pt : Pt) (G : Hp) (v : V) : U → Prop
  | .d x => Dat K G v x
  | .pot => pt.on = true ∧ v = .ref pt.ap
  | .raw w => v = w
  | .scr ds => ∃ a xs, v = .ref a ∧ SqL K G a xs ∧ Dats K G xs ds
  | .tdic kvs => ∃ a ws, v = .ref a ∧ G a = some (.dT ws) ∧ DicD K G ws kvs
  | .fz ds => ∃ a o xs, v = .ref a ∧ G a = some (.frz o (.tup xs)) ∧ (o.cls = .type "tuple" ∧ o.dict = none) ∧ Dats K G xs ds
theorem UD.mono {K : PySem.W.Frag} {pt : Pt} {G H : Hp} {v : V} {u : U} (h : Same G H) (r : UD K pt G v u) : UD K pt H v u := by
  cases u with
  | d x => exact Dat.mono h r
  | pot => exact r
  | raw w => exact r
  | scr ds =>
    obtain ⟨a, xs, e, s, t⟩ := r
    exact ⟨a, xs, e, h.seq s, t.mono h⟩
  | tdic kvs =>
    obtain ⟨a, ws, e, s, t1, t2⟩ := r
    exact ⟨a, ws, e, h _ _ s, t1, t2.mono h⟩
  | fz ds =>
    obtain ⟨a, o, xs, e, s, t1, t2⟩ := r
    exact ⟨a, o, xs, e, h _ _ s, t1, t2.mono h⟩
inductive UDs (K : PySem.W.Frag) (pt : Pt) (G : Hp) : List V → List U → Prop
  | nil : UDs K pt G [] []
  | cons {v : V} {u : U} {vs : List V} {us : List U} : UD K pt G v u → UDs K pt G vs us → UDs K pt G (v :: vs) (u :: us)
theorem UDs.mono {K : PySem.W.Frag} {pt : Pt} {G H : Hp} (h : Same G H) : ∀ {vs : List V} {us : List U}, UDs K pt G vs us → UDs K pt H vs us
  | _, _, .nil => .nil
  | _, _, .cons r t => .cons (r.mono h) (t.mono h)
theorem UDs.len {K : PySem.W.Frag} {pt : Pt} {G : Hp} : ∀ {vs : List V} {us : List U}, UDs K pt G vs us → vs.length = us.length
  | _, _, .nil => rfl
  | _, _, .cons _ t => by rw [List.length_cons, List.length_cons, t.len]
theorem UDs.get {K : PySem.W.Frag} {pt : Pt} {G : Hp} : ∀ {vs : List V} {us : List U} {i : Nat} {u : U}, UDs K pt G vs us → us[i]? = some u → ∃ v, vs[i]? = some v ∧ UD K pt G v u
  | _, _, _, _, .nil, e => by simp at e
  | _, _, 0, _, .cons s _, e => by simp at e; subst e; exact ⟨_, rfl, s⟩
  | _, _, i + 1, u, .cons _ t, e => by
    obtain ⟨v, h1, h2⟩ := UDs.get (i := i) (u := u) t (by simpa using e)
    exact ⟨v, by simpa using h1, h2⟩
inductive Sl where
  | val (u : U) | own (ds : List PyData) | dic (kvs : List (List Int × PyData))
def Sl.isOwn : Sl → Bool
  | .val _ => false
  | .own _ => true
  | .dic _ => true
/-- what one's own thing is in the heap -/
def OwnD (K : PySem.W.Frag) (G : Hp) (s : Sl) (o : HO) : Prop :=
  (∃ ds vs, s = .own ds ∧ o = .lst vs ∧ Dats K G vs ds) ∨ ∃ kvs ws, s = .dic kvs ∧ o = .dT ws ∧ DicD K G ws kvs
theorem OwnD.mono {K : PySem.W.Frag} {G G' : Hp} (h : Same G G') {s : Sl} {o : HO} (q : OwnD K G s o) : OwnD K G' s o := by
  rcases q with ⟨ds, vs, e1, e2, d⟩ | ⟨kvs, ws, e1, e2, d1, d2⟩
  · exact .inl ⟨ds, vs, e1, e2, d.mono h⟩
  · exact .inr ⟨kvs, ws, e1, e2, d1, d2.mono h⟩
theorem OwnD.lst {K : PySem.W.Frag} {G : Hp} {o : HO} {ds : List PyData} (q : OwnD K G (.own ds) o) : ∃ vs, o = .lst vs ∧ Dats K G vs ds := by
  rcases q with ⟨ds', vs, e1, e2, d⟩ | ⟨kvs, ws, e1, e2, d⟩
  · injection e1 with e1
    subst e1
    exact ⟨vs, e2, d⟩
  · injection e1
theorem OwnD.dT {K : PySem.W.Frag} {G : Hp} {o : HO} {kvs : List (List Int × PyData)} (q : OwnD K G (.dic kvs) o) : ∃ ws, o = .dT ws ∧ DicD K G ws kvs := by
  rcases q with ⟨ds', vs, e1, e2, d⟩ | ⟨kvs', ws, e1, e2, d⟩
  · injection e1
  · injection e1 with e1
    subst e1
    exact ⟨ws, e2, d⟩
theorem OwnD.ofL {K : PySem.W.Frag} {G : Hp} {vs : List V} {ds : List PyData} (d : Dats K G vs ds) : OwnD K G (.own ds) (.lst vs) := .inl ⟨_, _, rfl, rfl, d⟩
theorem OwnD.ofT {K : PySem.W.Frag} {G : Hp} {ws : List (List Key × V)} {kvs : List (List Int × PyData)} (d : DicD K G ws kvs) : OwnD K G (.dic kvs) (.dT ws) := .inr ⟨_, _, rfl, rfl, d⟩
abbrev En := List (Option Sl)
/-- a def's entry: the pot, the heap, what of it is data that stays -/
structure Bs where
  pt : Pt
  H0 : Hp
  G0 : Hp
/-- what was tracked stays, but for the pot's own -/
def Ext (pt : Pt) (H H' : Hp) : Prop := ∀ a o, H a = some o → a ∉ pt.pots → H' a = some o
theorem Ext.refl {pt : Pt} {H : Hp} : Ext pt H H := fun _ _ h _ => h
theorem Ext.trans {pt : Pt} {H H1 H2 : Hp} (a : Ext pt H H1) (b : Ext pt H1 H2) : Ext pt H H2 := fun c o h n => b c o (a c o h n) n
def IsTupO (o : HO) : Prop := ∃ xs, o = .tup xs
/-- what is told behind an expression: what was data stays, what was tracked stays, and only new things have become data -/
structure Nxt (pt : Pt) (G H G' H' : Hp) : Prop where
  same : Same G G'
  ext : Ext pt H H'
  grow : ∀ a o, G' a = some o → G a = some o ∨ H a = none ∨ a ∈ pt.pots ∨ IsTupO o
theorem Nxt.refl {pt : Pt} {G H : Hp} : Nxt pt G H G H := ⟨Same.refl G, Ext.refl, fun _ _ h => .inl h⟩
theorem Nxt.trans {pt : Pt} {G H G1 H1 G2 H2 : Hp} (x : Nxt pt G H G1 H1) (y : Nxt pt G1 H1 G2 H2) : Nxt pt G H G2 H2 :=
  ⟨x.same.trans y.same, x.ext.trans y.ext, fun a o h => by
    rcases y.grow a o h with z | z | z
    · exact x.grow a o z
    · cases q : H a with
      | none => exact .inr (.inl rfl)
      | some u =>
        by_cases hp : a ∈ pt.pots
        · exact .inr (.inr (.inl hp))
        · rw [x.ext a u q hp] at z; cases z
    · exact .inr (.inr z)⟩
structure Rel (K : PySem.W.Frag) (B : Bs) (b : Nat) (e : En) (σ : L2.St) (G H : Hp) : Prop where
  sub : Same G H
  sub0 : Same B.G0 G
  grow : ∀ a o, G a = some o → B.G0 a = some o ∨ B.H0 a = none ∨ IsTupO o
  gpot : ∀ a ∈ B.pt.pots, G a = none
  J : B.pt.J b H
  frame : Ext B.pt B.H0 H
  len : e.length = σ.length
  val : ∀ (i : Nat) (u : U), e[i]? = some (some (Sl.val u)) → ∃ v, σ[i]? = some (some v) ∧ UD K B.pt G v u
  own : ∀ (i : Nat) (t : Sl), e[i]? = some (some t) → t.isOwn = true → ∃ p o, σ[i]? = some (some (.ref p)) ∧ H p = some o ∧ OwnD K G t o ∧ G p = none ∧ B.H0 p = none ∧ p ∉ B.pt.pots
  sep : ∀ (i j : Nat) (t u : Sl) (p : Addr), e[i]? = some (some t) → e[j]? = some (some u) → t.isOwn = true → u.isOwn = true → σ[i]? = some (some (.ref p)) → σ[j]? = some (some (.ref p)) → i = j
section
variable {K : PySem.W.Frag} {B : Bs} {b : Nat} {e : En} {σ : L2.St} {G H : Hp}
theorem Rel.le {b' : Nat} (r : Rel K B b e σ G H) (l : b' ≤ b) : Rel K B b' e σ G H := ⟨r.sub, r.sub0, r.grow, r.gpot, B.pt.le r.J l, r.frame, r.len, r.val, r.own, r.sep⟩
/-- one's own list -/
theorem Rel.ownL (r : Rel K B b e σ G H) (i : Nat) (ds : List PyData) (h : e[i]? = some (some (Sl.own ds))) : ∃ p vs, σ[i]? = some (some (.ref p)) ∧ H p = some (.lst vs) ∧ Dats K G vs ds ∧ G p = none ∧ B.H0 p = none ∧ p ∉ B.pt.pots := by
  obtain ⟨p, o, h1, h2, h3, h4⟩ := r.own i _ h rfl
  obtain ⟨vs, rfl, d⟩ := h3.lst
  exact ⟨p, vs, h1, h2, d, h4⟩
/-- one's own dict -/
theorem Rel.ownT (r : Rel K B b e σ G H) (i : Nat) (kvs : List (List Int × PyData)) (h : e[i]? = some (some (Sl.dic kvs))) : ∃ p ws, σ[i]? = some (some (.ref p)) ∧ H p = some (.dT ws) ∧ DicD K G ws kvs ∧ G p = none ∧ B.H0 p = none ∧ p ∉ B.pt.pots := by
  obtain ⟨p, o, h1, h2, h3, h4⟩ := r.own i _ h rfl
  obtain ⟨vs, rfl, d⟩ := h3.dT
  exact ⟨p, vs, h1, h2, d, h4⟩
theorem Rel.nopot (r : Rel K B b e σ G H) {p : Addr} (n : H p = none) : p ∉ B.pt.pots := fun hp => by
  obtain ⟨o, q⟩ := B.pt.there H r.J p hp
  rw [n] at q; cases q
theorem Rel.old (r : Rel K B b e σ G H) {p : Addr} (n : H p = none) : B.H0 p = none := by
  cases q : B.H0 p with
  | none => rfl
  | some o =>
    have := r.frame p o q (r.nopot n)
    rw [n] at this; cases this
theorem Rel.gold (r : Rel K B b e σ G H) {p : Addr} (n : H p = none) : G p = none := by
  cases q : G p with
  | none => rfl
  | some o =>
    have := r.sub p o q
    rw [n] at this; cases this
/-- a new thing is laid -/
theorem Rel.laid (r : Rel K B b e σ G H) {p : Addr} (n : H p = none) (o : HO) : Rel K B b e σ G (upd H p o) where
  sub := fun a u q => by rw [upd_ne (ne_of_none (r.sub a u q) n)]; exact r.sub a u q
  sub0 := r.sub0
  grow := r.grow
  gpot := r.gpot
  J := B.pt.loc H _ (fun a ha => upd_ne fun z => r.nopot n (z ▸ ha)) r.J
  frame := fun a u q hn => by
    have q' := r.frame a u q hn
    rw [upd_ne (ne_of_none q' n)]; exact q'
  len := r.len
  val := r.val
  own := fun i ds q z => by
    obtain ⟨p', vs, h1, h2, h3⟩ := r.own i ds q z
    exact ⟨p', vs, h1, by rw [upd_ne (ne_of_none h2 n)]; exact h2, h3⟩
  sep := r.sep
theorem ext_laid {pt : Pt} {p : Addr} (n : H p = none) (o : HO) : Ext pt H (upd H p o) := fun a u q _ => by rw [upd_ne (ne_of_none q n)]; exact q
theorem same_laid {p : Addr} (n : G p = none) (o : HO) : Same G (upd G p o) := fun a u q => by rw [upd_ne (ne_of_none q n)]; exact q
/-- what was laid is data from now on -/
theorem Rel.froze (r : Rel K B b e σ G H) {p : Addr} {o : HO} (h : H p = some o) (n : G p = none) (old : B.H0 p = none) (np : p ∉ B.pt.pots) (no : ∀ (i : Nat) (t : Sl), e[i]? = some (some t) → t.isOwn = true → σ[i]? ≠ some (some (.ref p))) : Rel K B b e σ (upd G p o) H where
  sub := fun a u q => by
    by_cases ha : a = p
    · subst ha; rw [upd_same] at q; cases q; exact h
    · rw [upd_ne ha] at q; exact r.sub a u q
  sub0 := fun a u q => same_laid n o a u (r.sub0 a u q)
  grow := fun a u q => by
    by_cases ha : a = p
    · subst ha; exact .inr (.inl old)
    · rw [upd_ne ha] at q; exact r.grow a u q
  gpot := fun a ha => by
    have ne : a ≠ p := fun z => np (z ▸ ha)
    rw [upd_ne ne]; exact r.gpot a ha
  J := r.J
  frame := r.frame
  len := r.len
  val := fun i u q => let ⟨v, h1, h2⟩ := r.val i u q; ⟨v, h1, h2.mono (same_laid n o)⟩
  own := fun i ds q hz => by
    obtain ⟨p', vs, h1, h2, h3, h4, h5⟩ := r.own i ds q hz
    have ne : p' ≠ p := fun z => no i ds q hz (z ▸ h1)
    exact ⟨p', vs, h1, h2, h3.mono (same_laid n o), by rw [upd_ne ne]; exact h4, h5⟩
  sep := r.sep
/-- a new thing that is data at once -/
theorem Rel.new (r : Rel K B b e σ G H) {p : Addr} (n : H p = none) (o : HO) : Rel K B b e σ (upd G p o) (upd H p o) :=
  (r.laid n o).froze upd_same (r.gold n) (r.old n) (r.nopot n) fun i ds q hz z => by
    obtain ⟨p', vs, h1, h2, _⟩ := r.own i ds q hz
    rw [z] at h1; cases h1
    rw [n] at h2; cases h2
theorem ext_both {pt : Pt} {H1 H2 : Hp} {p : Addr} (x : Ext pt H1 H2) (n : H2 p = none) (np : p ∉ pt.pots) : H1 p = none := by
  cases q : H1 p with
  | none => rfl
  | some o => rw [x p o q np] at n; cases n
end

/-! ### costs: how many draws there must be left ahead of a piece of text, by how many have to be left behind it -/
abbrev Cst := {f : Nat → Nat // ∀ d, d ≤ f d}
/-- no draw -/
abbrev cz : Cst := ⟨fun d => d, fun d => Nat.le_refl d⟩
/-- one behind another -/
abbrev sq (f g : Cst) : Cst := ⟨fun d => f.1 (g.1 d), fun d => Nat.le_trans (g.2 d) (f.2 _)⟩
/-- one of two -/
abbrev mx (f g : Cst) : Cst := ⟨fun d => max (f.1 d) (g.1 d), fun d => Nat.le_trans (f.2 d) (Nat.le_max_left _ _)⟩
/-- so many -/
abbrev cn (n : Nat) : Cst := ⟨fun d => d + n, fun d => Nat.le_add_right d n⟩
/-! ### meanings and judgements -/
abbrev M := En → (U → Prop) → Prop
abbrev MT := En → (Bool → Prop) → Prop
abbrev MA := En → (List U → Prop) → Prop
/-- a tuple, a list, a list that is the script (or of the written part) -/
inductive Kd where
  | tup | lst | scr
abbrev ML := En → (Kd → List PyData → Prop) → Prop
abbrev MO := En → (List PyData → Prop) → Prop
structure Kt where
  nx : En → Prop
  rt : U → Prop
  bk : En → Prop := fun _ => False
  ct : En → Prop := fun _ => False
abbrev MS := En → Kt → Prop
structure Kle (k k' : Kt) : Prop where
  nx : ∀ e, k.nx e → k'.nx e
  rt : ∀ u, k.rt u → k'.rt u
  bk : ∀ e, k.bk e → k'.bk e
  ct : ∀ e, k.ct e → k'.ct e
def tM (K : PySem.W.Frag) (B : Bs) (m : M) (f : Cst) : TE := fun σ H Q => ∃ e G d, Rel K B (f.1 d) e σ G H ∧ m e fun u => ∀ v H' G', Rel K B d e σ G' H' → Nxt B.pt G H G' H' → UD K B.pt G' v u → Q v H'
def tMT (K : PySem.W.Frag) (B : Bs) (m : MT) (f : Cst) : TT := fun σ H Q => ∃ e G d, Rel K B (f.1 d) e σ G H ∧ m e fun b => ∀ H' G', Rel K B d e σ G' H' → Nxt B.pt G H G' H' → Q b H'
def tMA (K : PySem.W.Frag) (B : Bs) (m : MA) (f : Cst) : TA := fun σ H Q => ∃ e G d, Rel K B (f.1 d) e σ G H ∧ m e fun us => ∀ vs H' G', Rel K B d e σ G' H' → Nxt B.pt G H G' H' → UDs K B.pt G' vs us → Q vs H'
/-- a list or a tuple to be read, not kept -/
def SqB (K : PySem.W.Frag) (pt : Pt) (G H : Hp) (a : Addr) (k : Kd) (vs : List V) : Prop := match k with
  | .tup => G a = some (.tup vs)
  | .lst => H a = some (.lst vs) ∧ a ∉ pt.pots
  | .scr => SqL K G a vs
def SqD (K : PySem.W.Frag) (pt : Pt) (G H : Hp) (v : V) (k : Kd) (ds : List PyData) : Prop := ∃ a vs, v = .ref a ∧ SqB K pt G H a k vs ∧ Dats K G vs ds
def tML (K : PySem.W.Frag) (B : Bs) (m : ML) (f : Cst) : TE := fun σ H Q => ∃ e G d, Rel K B (f.1 d) e σ G H ∧ m e fun k ds => ∀ v H' G', Rel K B d e σ G' H' → Nxt B.pt G H G' H' → SqD K B.pt G' H' v k ds → Q v H'
/-- a list that is just made: at p, nobody else's -/
def tMO (K : PySem.W.Frag) (B : Bs) (m : MO) (f : Cst) : TE := fun σ H Q => ∃ e G d, Rel K B (f.1 d) e σ G H ∧ m e fun ds => ∀ p vs H' G', Rel K B d e σ G' H' → Nxt B.pt G H G' H' → H p = none → G' p = none → H' p = some (.lst vs) → Dats K G' vs ds → Q (.ref p) H'
def kOf (K : PySem.W.Frag) (B : Bs) (G : Hp) (d : Nat) (D : Ends) : Kt where
  nx := fun e' => ∀ σ' H' G', Rel K B d e' σ' G' H' → Same G G' → D.nx σ' H'
  rt := fun u => ∀ v e' σ' H' G', Rel K B d e' σ' G' H' → Same G G' → UD K B.pt G' v u → D.rt v H'
  bk := fun e' => ∀ σ' H' G', Rel K B d e' σ' G' H' → Same G G' → D.bk σ' H'
  ct := fun e' => ∀ σ' H' G', Rel K B d e' σ' G' H' → Same G G' → D.ct σ' H'
def tMS (K : PySem.W.Frag) (B : Bs) (m : MS) (f : Cst) : TS := fun D σ H => ∃ e G d, Rel K B (f.1 d) e σ G H ∧ m e (kOf K B G d D)
structure XE (X : Cx) (B : Bs) (x : Expr) (m : M) (f : Cst) : Prop where
  mono : ∀ e (P P' : U → Prop), (∀ u, P u → P' u) → m e P → m e P'
  pe : PE X x (tM X.K B m f)
structure XT (X : Cx) (B : Bs) (x : Expr) (m : MT) (f : Cst) : Prop where
  mono : ∀ e (P P' : Bool → Prop), (∀ u, P u → P' u) → m e P → m e P'
  pt : PT X x (tMT X.K B m f)
structure XA (X : Cx) (B : Bs) (xs : List Expr) (m : MA) (f : Cst) : Prop where
  mono : ∀ e (P P' : List U → Prop), (∀ u, P u → P' u) → m e P → m e P'
  pa : PA X xs (tMA X.K B m f)
structure XL (X : Cx) (B : Bs) (x : Expr) (m : ML) (f : Cst) : Prop where
  mono : ∀ e (P P' : Kd → List PyData → Prop), (∀ k u, P k u → P' k u) → m e P → m e P'
  pe : PE X x (tML X.K B m f)
structure XO (X : Cx) (B : Bs) (x : Expr) (m : MO) (f : Cst) : Prop where
  mono : ∀ e (P P' : List PyData → Prop), (∀ u, P u → P' u) → m e P → m e P'
  pe : PE X x (tMO X.K B m f)
structure XS (X : Cx) (B : Bs) (st : Stmt) (m : MS) (f : Cst) : Prop where
  mono : ∀ e k k', Kle k k' → m e k → m e k'
  ps : PS X st (tMS X.K B m f)
structure XSs (X : Cx) (B : Bs) (st : List Stmt) (m : MS) (f : Cst) : Prop where
  mono : ∀ e k k', Kle k k' → m e k → m e k'
  ps : PSs X st (tMS X.K B m f)
section
variable {X : Cx} {e : Expr} {t t' : TE}
theorem peW (h : PE X e t) (w : ∀ σ H Q, t' σ H Q → t σ H Q) : PE X e t' := ⟨fun pins s σ H Q I q => h.run pins s σ H Q I (w σ H Q q)⟩
theorem ptW {t t' : TT} (h : PT X e t) (w : ∀ σ H Q, t' σ H Q → t σ H Q) : PT X e t' := ⟨fun pins s σ H Q I q => h.run pins s σ H Q I (w σ H Q q)⟩
theorem paW {es : List Expr} {t t' : TA} (h : PA X es t) (w : ∀ σ H Q, t' σ H Q → t σ H Q) : PA X es t' := ⟨fun pos pins s σ H Q I q => h.run pos pins s σ H Q I (w σ H Q q)⟩
theorem psW {st : Stmt} {t t' : TS} (h : PS X st t) (w : ∀ D σ H, t' D σ H → t D σ H) : PS X st t' := ⟨fun pins s σ H D I q => h.run pins s σ H D I (w D σ H q)⟩
theorem pssW {st : List Stmt} {t t' : TS} (h : PSs X st t) (w : ∀ D σ H, t' D σ H → t D σ H) : PSs X st t' := ⟨fun pins s σ H D I q => h.run pins s σ H D I (w D σ H q)⟩
end
theorem nxt_laid {pt : Pt} {G H : Hp} {p : Addr} (g : G p = none) (n : H p = none) (o : HO) : Nxt pt G H (upd G p o) (upd H p o) :=
  ⟨same_laid g o, ext_laid n o, fun a u q => by
    by_cases ha : a = p
    · subst ha; exact .inr (.inl n)
    · rw [upd_ne ha] at q; exact .inl q⟩
theorem nxt_only {pt : Pt} {G H : Hp} {p : Addr} (n : H p = none) (o : HO) : Nxt pt G H G (upd H p o) := ⟨Same.refl G, ext_laid n o, fun _ _ h => .inl h⟩
/-- what was laid before becomes data -/
theorem Nxt.froze {pt : Pt} {G H G' H' : Hp} {p : Addr} (x : Nxt pt G H G' H') (g : G' p = none) (n : H p = none) (o : HO) : Nxt pt G H (upd G' p o) H' :=
  ⟨x.same.trans (same_laid g o), x.ext, fun a u q => by
    by_cases ha : a = p
    · subst ha; exact .inr (.inl n)
    · rw [upd_ne ha] at q; exact x.grow a u q⟩
/-- a tuple that was laid becomes data -/
theorem Rel.frozeTup {K : PySem.W.Frag} {B : Bs} {e : En} {σ : L2.St} {G H : Hp} (r : Rel K B b e σ G H) {p : Addr} {xs : List V} (h : H p = some (.tup xs)) : ∃ G', Rel K B b e σ G' H ∧ Nxt B.pt G H G' H ∧ G' p = some (.tup xs) := by
  have np : p ∉ B.pt.pots := fun hp => by
    obtain ⟨o, z⟩ := Pt.mem hp
    have j := potJ_tup (r.J o) xs
    rcases z with z | z
    · exact j.1 (z ▸ h)
    · exact j.2 (z ▸ h)
  cases g : G p with
  | some o =>
    have := r.sub p o g
    rw [h] at this; cases this
    exact ⟨G, r, .refl, g⟩
  | none =>
    refine ⟨upd G p (.tup xs), ?_, ⟨same_laid g _, Ext.refl, fun a u q => ?_⟩, upd_same⟩
    · refine ⟨fun a u q => ?_, fun a u q => same_laid g _ a u (r.sub0 a u q), fun a u q => ?_, fun a ha => ?_, r.J, r.frame, r.len, fun i u q => ?_, fun i t q hz => ?_, r.sep⟩
      · by_cases ha : a = p
        · subst ha; rw [upd_same] at q; cases q; exact h
        · rw [upd_ne ha] at q; exact r.sub a u q
      · by_cases ha : a = p
        · subst ha; rw [upd_same] at q; cases q; exact .inr (.inr ⟨_, rfl⟩)
        · rw [upd_ne ha] at q; exact r.grow a u q
      · have ne : a ≠ p := fun z => np (z ▸ ha)
        rw [upd_ne ne]; exact r.gpot a ha
      · obtain ⟨v, h1, h2⟩ := r.val i u q
        exact ⟨v, h1, h2.mono (same_laid g _)⟩
      · obtain ⟨p', o, h1, h2, h3, h4, h5⟩ := r.own i t q hz
        have ne : p' ≠ p := fun z => by
          rw [z, h] at h2; cases h2
          rcases h3 with ⟨_, _, _, e2, _⟩ | ⟨_, _, _, e2, _⟩ <;> cases e2
        exact ⟨p', o, h1, h2, h3.mono (same_laid g _), by rw [upd_ne ne]; exact h4, h5⟩
    · by_cases ha : a = p
      · subst ha; rw [upd_same] at q; cases q; exact .inr (.inr (.inr ⟨_, rfl⟩))
      · rw [upd_ne ha] at q; exact .inl q
/-- read as a list or a tuple -/
theorem SqB.seq {K : PySem.W.Frag} {pt : Pt} {G H : Hp} {a : Addr} {k : Kd} {vs : List V} (sub : Same G H) (h : SqB K pt G H a k vs) : SqL K H a vs ∨ SqT K H a vs := by
  cases k with
  | tup => exact .inr (.inl (.inl (sub _ _ h)))
  | lst => exact .inl (.inl (.inl h.1))
  | scr => exact .inl (sub.seq h)
theorem SqD.mono {K : PySem.W.Frag} {pt : Pt} {G G' H H' : Hp} {v : V} {k : Kd} {ds : List PyData} (h : SqD K pt G H v k ds) (sg : Same G G') (x : Ext pt H H') : SqD K pt G' H' v k ds := by
  obtain ⟨a, vs, e, s, d⟩ := h
  refine ⟨a, vs, e, ?_, d.mono sg⟩
  cases k with
  | tup => exact sg _ _ s
  | lst => exact ⟨x a _ s.1 s.2, s.2⟩
  | scr => exact sg.seq s
end Fd

set_option Elab.async false
set_option linter.all false
set_option maxRecDepth 100000
set_option maxHeartbeats 4000000
/-! Fd, part B: expressions: names, constants, operators, tests, displays. -/
namespace Fd
open PySem PySem.Spec PyProof.Rows L2

/-! ### going on -/
section
variable {X : Cx} {B : Bs} {x : Expr} {K : PySem.W.Frag} {e : En} {σ : L2.St} {G H : Hp}
theorem XE.go {m : M} {P : U → Prop} {Q : VK} (h : XE X B x m f) (r : Rel X.K B (f.1 bd) e σ G H) (hm : m e P)
    (hq : ∀ u, P u → ∀ v H' G', Rel X.K B bd e σ G' H' → Nxt B.pt G H G' H' → UD X.K B.pt G' v u → Q v H') : tM X.K B m f σ H Q := ⟨e, G, _, r, h.mono e P _ hq hm⟩
theorem XT.go {m : MT} {P : Bool → Prop} {Q : Bool → Hp → Prop} (h : XT X B x m f) (r : Rel X.K B (f.1 bd) e σ G H) (hm : m e P)
    (hq : ∀ u, P u → ∀ H' G', Rel X.K B bd e σ G' H' → Nxt B.pt G H G' H' → Q u H') : tMT X.K B m f σ H Q := ⟨e, G, _, r, h.mono e P _ hq hm⟩
theorem XA.go {xs : List Expr} {m : MA} {P : List U → Prop} {Q : List V → Hp → Prop} (h : XA X B xs m f) (r : Rel X.K B (f.1 bd) e σ G H) (hm : m e P)
    (hq : ∀ u, P u → ∀ v H' G', Rel X.K B bd e σ G' H' → Nxt B.pt G H G' H' → UDs X.K B.pt G' v u → Q v H') : tMA X.K B m f σ H Q := ⟨e, G, _, r, h.mono e P _ hq hm⟩
theorem XL.go {m : ML} {P : Kd → List PyData → Prop} {Q : VK} (h : XL X B x m f) (r : Rel X.K B (f.1 bd) e σ G H) (hm : m e P)
    (hq : ∀ k ds, P k ds → ∀ v H' G', Rel X.K B bd e σ G' H' → Nxt B.pt G H G' H' → SqD X.K B.pt G' H' v k ds → Q v H') : tML X.K B m f σ H Q := ⟨e, G, _, r, h.mono e P _ hq hm⟩
theorem XO.go {m : MO} {P : List PyData → Prop} {Q : VK} (h : XO X B x m f) (r : Rel X.K B (f.1 bd) e σ G H) (hm : m e P)
    (hq : ∀ ds, P ds → ∀ p vs H' G', Rel X.K B bd e σ G' H' → Nxt B.pt G H G' H' → H p = none → G' p = none → H' p = some (.lst vs) → Dats X.K G' vs ds → Q (.ref p) H') : tMO X.K B m f σ H Q := ⟨e, G, _, r, h.mono e P _ hq hm⟩
end

/-! ### names, constants -/
section
variable {X : Cx} {B : Bs}
def getV (o : Option (Option Sl)) (Q : U → Prop) : Prop := match o with
  | some (some (.val u)) => Q u
  | _ => False
theorem getV_mono {o : Option (Option Sl)} {Q Q' : U → Prop} (h : ∀ u, Q u → Q' u) (q : getV o Q) : getV o Q' := by
  match o, q with
  | some (some (.val u)), q => exact h u q
theorem getV_out {o : Option (Option Sl)} {Q : U → Prop} (q : getV o Q) : ∃ u, o = some (some (.val u)) ∧ Q u := by
  match o, q with
  | some (some (.val u)), q => exact ⟨u, rfl, q⟩
theorem xe_var (i : Nat) {x : Str} {pos : Pos} (hN : X.N[i]? = some x := by rfl) (hv : Vis X.env.scope x := by first | exact Or.inl rfl | exact Or.inr (Or.inl rfl) | exact Or.inr (Or.inr rfl)) (hd : (x == ("__debug__" : Str)) = false := by decide)
    (hcd : (x == ("__classdict__" : Str)) = false := by decide) : XE X B (.Name x pos) (fun e Q => getV e[i]? Q) cz :=
  ⟨fun e P P' h q => getV_mono h q, peW (pe_var hN hv hd hcd) fun σ H Q ⟨e, G, dd, r, h⟩ => by
    obtain ⟨u, hu, q⟩ := getV_out h
    obtain ⟨v, h1, h2⟩ := r.val i u hu
    exact ⟨v, h1, q v H G r .refl h2⟩⟩
theorem xe_con {x : Expr} {v : V} {u : U} (h : PE X x (tC v)) (hu : ∀ G, UD X.K B.pt G v u) : XE X B x (fun _ Q => Q u) cz :=
  ⟨fun e P P' h q => h u q, peW h fun σ H Q ⟨e, G, dd, r, q⟩ => q v H G r .refl (hu G)⟩
theorem xe_int {i j pos} : XE X B (.Constant (.int i) j pos) (fun _ Q => Q (.d (.int i))) cz := xe_con pe_int fun _ => .int i
theorem xe_bl {b j pos} : XE X B (.Constant (.bool b) j pos) (fun _ Q => Q (.d (.bool b))) cz := xe_con pe_bl fun _ => .bl b
theorem xe_non {j pos} : XE X B (.Constant .none j pos) (fun _ Q => Q (.d .none)) cz := xe_con pe_non fun _ => .non
theorem xe_str {x j pos} : XE X B (.Constant (.str x) j pos) (fun _ Q => Q (.d (.str x))) cz := xe_con pe_str fun _ => .str x
theorem xe_globI {x : Str} {i : Int} {t : Tok} {pos : Pos} (hg : Gl X x) (hm : X.mg x = some (.int i t)) (hd : (x == ("__debug__" : Str)) = false := by decide) : XE X B (.Name x pos) (fun _ Q => Q (.d (.int i))) cz :=
  xe_con (v := .int i) (pe_glob hg hm (show RelV (.int i) (.int i t) from ⟨t, rfl⟩) hd) fun _ => .int i
end

/-! ### operators of two -/
abbrev G2 := U → U → (U → Prop) → Prop
structure OkR (K : PySem.W.Frag) (B : Bs) (r : R2) (g : G2) : Prop where
  mono : ∀ u w (Q Q' : U → Prop), (∀ z, Q z → Q' z) → g u w Q → g u w Q'
  ok : ∀ (bd : Nat) (e : En) (σ : L2.St) (G H : Hp) (x y : V) (u w : U) (Q : U → Prop) (R : VK), Rel K B bd e σ G H → UD K B.pt G x u → UD K B.pt G y w → g u w Q →
    (∀ z v H' G', Q z → Rel K B bd e σ G' H' → Nxt B.pt G H G' H' → UD K B.pt G' v z → R v H') → r x y H R
section
variable {X : Cx} {B : Bs} {a b : Expr} {ma mb : M} {r : R2} {g : G2} {pos : Pos}
theorem two_conv (ok : OkR X.K B r g) (ha : XE X B a ma fa) (hb : XE X B b mb fb) {σ : L2.St} {H : Hp} {Q : VK} (h : tM X.K B (fun e Q => ma e fun u => mb e fun w => g u w Q) (sq fa fb) σ H Q) : tOp r (tM X.K B ma fa) (tM X.K B mb fb) σ H Q := by
  obtain ⟨e, G, dd, rl, h⟩ := h
  refine ha.go rl h fun u hu v1 H1 G1 r1 x1 d1 => hb.go r1 hu fun w hw v2 H2 G2 r2 x2 d2 => ?_
  exact ok.ok _ e σ G2 H2 v1 v2 u w _ Q r2 (d1.mono x2.same) d2 hw fun z v H' G' q r' x' d' => q v H' G' r' (x1.trans (x2.trans x')) d'
theorem two_mono (ok : OkR X.K B r g) (ha : XE X B a ma fa) (hb : XE X B b mb fb) (e : En) (P P' : U → Prop) (h : ∀ u, P u → P' u) (q : ma e fun u => mb e fun w => g u w P) : ma e fun u => mb e fun w => g u w P' :=
  ha.mono e _ _ (fun u hu => hb.mono e _ _ (fun w hw => ok.mono u w P P' h hw) hu) q
theorem xe_op {op : Operator} (ho : OpR X (binaryOp op) r) (ok : OkR X.K B r g) (ha : XE X B a ma fa) (hb : XE X B b mb fb) : XE X B (.BinOp a op b pos) (fun e Q => ma e fun u => mb e fun w => g u w Q) (sq fa fb) :=
  ⟨two_mono ok ha hb, peW (pe_op ho ha.pe hb.pe) fun _ _ _ h => two_conv ok ha hb h⟩
theorem xe_cmp {op : CmpOp} (ho : OpR X (compareOp op) r) (ok : OkR X.K B r g) (ha : XE X B a ma fa) (hb : XE X B b mb fb) (hm : behindInMarks op b = false := by first | exact nomark _ | rfl) : XE X B (.Compare a [op] [b] pos) (fun e Q => ma e fun u => mb e fun w => g u w Q) (sq fa fb) :=
  ⟨two_mono ok ha hb, peW (pe_cmpR ho ha.pe hb.pe hm) fun _ _ _ h => two_conv ok ha hb h⟩
/-- of a value that is True or False -/
def onB (Q : Bool → Prop) : U → Prop
  | .d (.bool b) => Q b
  | _ => False
theorem onB_mono {Q Q' : Bool → Prop} (h : ∀ b, Q b → Q' b) : ∀ u, onB Q u → onB Q' u
  | .d (.bool b), q => h b q
theorem onB_ud {K : PySem.W.Frag} {pt : Pt} {G : Hp} {Q : Bool → Prop} {v : V} : ∀ {u : U}, onB Q u → UD K pt G v u → ∃ b, v = .bl b ∧ Q b
  | .d (.bool b), q, d => by
    cases d
    exact ⟨b, rfl, q⟩
theorem xt_cmp {op : CmpOp} (ho : OpR X (compareOp op) r) (ok : OkR X.K B r g) (ha : XE X B a ma fa) (hb : XE X B b mb fb) (hm : behindInMarks op b = false := by first | exact nomark _ | rfl) :
    XT X B (.Compare a [op] [b] pos) (fun e Q => ma e fun u => mb e fun w => g u w (onB Q)) (sq fa fb) :=
  ⟨fun e P P' h q => two_mono ok ha hb e _ _ (onB_mono h) q, ptW (pt_cmpR ho ha.pe hb.pe hm) fun σ H Q ⟨e, G, dd, rl, h⟩ =>
    two_conv ok ha hb ⟨e, G, _, rl, two_mono ok ha hb e _ _ (fun u q v H' G' r' x' d' => by
      obtain ⟨k, e1, q⟩ := onB_ud q d'
      exact ⟨k, e1, q H' G' r' x'⟩) h⟩⟩
/-- a < b < c -/
def gCh (g g' : G2) (mc : M) (e : En) (u w : U) (Q : U → Prop) : Prop := g u w fun z => onB (fun k => if k = true then mc e fun y => g' w y Q else Q (.d (.bool false))) z
section
variable {op op' : CmpOp} {r' : R2} {g' : G2} {c : Expr} {mc : M}
theorem gCh_mono (ok : OkR X.K B r g) (ok' : OkR X.K B r' g') (hc : XE X B c mc fc) (e : En) (u w : U) (P P' : U → Prop) (h : ∀ u, P u → P' u) (q : gCh g g' mc e u w P) : gCh g g' mc e u w P' := by
  refine ok.mono u w _ _ (onB_mono fun k hk => ?_) q
  cases k with
  | true =>
    rw [if_pos rfl] at hk ⊢
    exact hc.mono e _ _ (fun y hy => ok'.mono w y _ _ h hy) hk
  | false =>
    rw [if_neg (by decide)] at hk ⊢
    exact h _ hk
theorem ch_conv (ok : OkR X.K B r g) (ok' : OkR X.K B r' g') (ha : XE X B a ma fa) (hb : XE X B b mb fb) (hc : XE X B c mc fc) {σ : L2.St} {H : Hp} {Q : VK} (h : tM X.K B (fun e Q => ma e fun u => mb e fun w => gCh g g' mc e u w Q) (sq fa (sq fb fc)) σ H Q) :
    tChain r r' (tM X.K B ma fa) (tM X.K B mb fb) (tM X.K B mc fc) σ H Q := by
  obtain ⟨e, G, dd, rl, hh⟩ := h
  refine ha.go rl hh fun u hu v1 H1 G1 r1 x1 d1 => hb.go r1 hu fun w hw v2 H2 G2 r2 x2 d2 => ?_
  refine ok.ok _ e σ G2 H2 v1 v2 u w _ _ r2 (d1.mono x2.same) d2 hw fun z v H3 G3 q r3 x3 d3 => ?_
  obtain ⟨k, e1, q⟩ := onB_ud q d3
  refine ⟨k, e1, ?_⟩
  cases k with
  | true =>
    rw [if_pos rfl] at q ⊢
    refine hc.go r3 q fun y hy v4 H4 G4 r4 x4 d4 => ?_
    refine ok'.ok _ e σ G4 H4 v2 v4 w y _ _ r4 ((d2.mono x3.same).mono x4.same) d4 hy fun z5 v5 H5 G5 q5 r5 x5 d5 => ?_
    exact q5 v5 H5 G5 r5 (x1.trans (x2.trans (x3.trans (x4.trans x5)))) d5
  | false =>
    rw [if_neg (by decide)] at q ⊢
    exact q _ H3 G3 (r3.le (fc.2 _)) (x1.trans (x2.trans x3)) (.bl false)
theorem xe_chain (ho : OpR X (compareOp op) r) (ok : OkR X.K B r g) (ho' : OpR X (compareOp op') r') (ok' : OkR X.K B r' g') (ha : XE X B a ma fa) (hb : XE X B b mb fb) (hc : XE X B c mc fc)
    (hm : lastMarks [op, op'] [b, c] = false := by with_unfolding_all rfl) : XE X B (.Compare a [op, op'] [b, c] pos) (fun e Q => ma e fun u => mb e fun w => gCh g g' mc e u w Q) (sq fa (sq fb fc)) :=
  ⟨fun e P P' h q => ha.mono e _ _ (fun u hu => hb.mono e _ _ (fun w hw => gCh_mono ok ok' hc e u w _ _ h hw) hu) q, peW (pe_chain ho ho' ha.pe hb.pe hc.pe hm) fun _ _ _ h => ch_conv ok ok' ha hb hc h⟩
theorem xt_chain (ho : OpR X (compareOp op) r) (ok : OkR X.K B r g) (ho' : OpR X (compareOp op') r') (ok' : OkR X.K B r' g') (ha : XE X B a ma fa) (hb : XE X B b mb fb) (hc : XE X B c mc fc)
    (hm : lastMarks [op, op'] [b, c] = false := by with_unfolding_all rfl) : XT X B (.Compare a [op, op'] [b, c] pos) (fun e Q => ma e fun u => mb e fun w => gCh g g' mc e u w (onB Q)) (sq fa (sq fb fc)) :=
  ⟨fun e P P' h q => ha.mono e _ _ (fun u hu => hb.mono e _ _ (fun w hw => gCh_mono ok ok' hc e u w _ _ (onB_mono h) hw) hu) q, ptW (pt_chain ho ho' ha.pe hb.pe hc.pe hm) fun σ H Q ⟨e, G, dd, rl, h⟩ =>
    ch_conv ok ok' ha hb hc ⟨e, G, _, rl, ha.mono e _ _ (fun u hu => hb.mono e _ _ (fun w hw => gCh_mono ok ok' hc e u w _ _ (fun u q v H' G' r' x' d' => by
      obtain ⟨k, e1, q⟩ := onB_ud q d'
      exact ⟨k, e1, q H' G' r' x'⟩) hw) hu) h⟩⟩
end

/-! ### and, or, not, if else -/
section
variable {x : Expr} {rest : List Expr} {m : M} {mt mt' : MT}
theorem xt_and (ha : XT X B a mt fa) (hb : PW X (.BoolOp .And (b :: rest) pos) (tMT X.K B mt' fb)) (hbm : ∀ e (P P' : Bool → Prop), (∀ u, P u → P' u) → mt' e P → mt' e P') :
    PW X (.BoolOp .And (a :: b :: rest) pos) (tMT X.K B (fun e Q => mt e fun c => if c = true then mt' e Q else Q false) (sq fa fb)) := by
  refine ⟨fun wh pins s σ H Q I ⟨e, G, dd, rl, h⟩ => (pw_and ha.pt hb).run wh pins s σ H Q I (ha.go rl h fun c hc H1 G1 r1 x1 => ?_)⟩
  cases c with
  | true =>
    rw [if_pos rfl] at hc ⊢
    exact ⟨e, G1, _, r1, hbm e _ _ (fun u q H' G' r' x' => q H' G' r' (x1.trans x')) hc⟩
  | false =>
    rw [if_neg (by decide)] at hc ⊢
    exact hc H1 G1 (r1.le (fb.2 _)) x1
theorem xt_or (ha : XT X B a mt fa) (hb : PW X (.BoolOp .Or (b :: rest) pos) (tMT X.K B mt' fb)) (hbm : ∀ e (P P' : Bool → Prop), (∀ u, P u → P' u) → mt' e P → mt' e P') :
    PW X (.BoolOp .Or (a :: b :: rest) pos) (tMT X.K B (fun e Q => mt e fun c => if c = true then Q true else mt' e Q) (sq fa fb)) := by
  refine ⟨fun wh pins s σ H Q I ⟨e, G, dd, rl, h⟩ => (pw_or ha.pt hb).run wh pins s σ H Q I (ha.go rl h fun c hc H1 G1 r1 x1 => ?_)⟩
  cases c with
  | true =>
    rw [if_pos rfl] at hc ⊢
    exact hc H1 G1 (r1.le (fb.2 _)) x1
  | false =>
    rw [if_neg (by decide)] at hc ⊢
    exact ⟨e, G1, _, r1, hbm e _ _ (fun u q H' G' r' x' => q H' G' r' (x1.trans x')) hc⟩
/-- a chain of and, or as a test -/
structure XW (X : Cx) (B : Bs) (x : Expr) (m : MT) (f : Cst) : Prop where
  mono : ∀ e (P P' : Bool → Prop), (∀ u, P u → P' u) → m e P → m e P'
  pw : PW X x (tMT X.K B m f)
def mAnd (m m' : MT) : MT := fun e Q => m e fun c => if c = true then m' e Q else Q false
def mOr (m m' : MT) : MT := fun e Q => m e fun c => if c = true then Q true else m' e Q
theorem xw_and1 (ha : XT X B a mt fa) : XW X B (.BoolOp .And [a] pos) mt fa := ⟨ha.mono, pw_and1 ha.pt⟩
theorem xw_or1 (ha : XT X B a mt fa) : XW X B (.BoolOp .Or [a] pos) mt fa := ⟨ha.mono, pw_or1 ha.pt⟩
theorem xw_and (ha : XT X B a mt fa) (hb : XW X B (.BoolOp .And (b :: rest) pos) mt' fb) : XW X B (.BoolOp .And (a :: b :: rest) pos) (mAnd mt mt') (sq fa fb) :=
  ⟨fun e P P' h q => ha.mono e _ _ (fun c hc => by
    cases c with
    | true => rw [if_pos rfl] at hc ⊢; exact hb.mono e _ _ h hc
    | false => rw [if_neg (by decide)] at hc ⊢; exact h _ hc) q, xt_and ha hb.pw hb.mono⟩
theorem xw_or (ha : XT X B a mt fa) (hb : XW X B (.BoolOp .Or (b :: rest) pos) mt' fb) : XW X B (.BoolOp .Or (a :: b :: rest) pos) (mOr mt mt') (sq fa fb) :=
  ⟨fun e P P' h q => ha.mono e _ _ (fun c hc => by
    cases c with
    | true => rw [if_pos rfl] at hc ⊢; exact h _ hc
    | false => rw [if_neg (by decide)] at hc ⊢; exact hb.mono e _ _ h hc) q, xt_or ha hb.pw hb.mono⟩
theorem XW.xt (h : XW X B x mt f) : XT X B x mt f := ⟨h.mono, h.pw.pt⟩
def mNot (m : MT) : MT := fun e Q => m e fun c => Q (!c)
theorem xt_not (ha : XT X B a mt fa) : XT X B (.UnaryOp .Not a pos) (mNot mt) fa :=
  ⟨fun e P P' h q => ha.mono e _ _ (fun c hc => h _ hc) q, ptW (pt_not ha.pt) fun σ H Q ⟨e, G, dd, rl, h⟩ => ha.go rl h fun c hc H1 G1 r1 x1 => hc H1 G1 r1 x1⟩
/-- a value True or False as a test -/
def mB (m : M) : MT := fun e Q => m e (onB Q)
theorem xt_val (ha : XE X B a m fa) (he : ∀ whole, isTrue a X.env whole = (do let v ← whole; standAt a.pos; holding [v] (truthy v)) := by intro _; rfl) : XT X B a (mB m) fa :=
  ⟨fun e P P' h q => ha.mono e _ _ (onB_mono h) q, ptW (pt_val ha.pe he) fun σ H Q ⟨e, G, dd, rl, h⟩ => ha.go rl h fun u q v H' G' r' x' d' => by
      obtain ⟨k, e1, q⟩ := onB_ud q d'
      exact ⟨k, e1, q H' G' r' x'⟩⟩
/-- a test as a value: not, and, or of values True or False -/
theorem xe_not (ha : XE X B a m fa) : XE X B (.UnaryOp .Not a pos) (fun e Q => m e (onB fun k => Q (.d (.bool (!k))))) fa :=
  ⟨fun e P P' h q => ha.mono e _ _ (onB_mono fun b hb => h _ hb) q, peW (pe_not ha.pe) fun σ H Q ⟨e, G, dd, rl, h⟩ => ha.go rl h fun u q v H' G' r' x' d' => by
      obtain ⟨k, e1, q⟩ := onB_ud q d'
      exact ⟨k, e1, q _ H' G' r' x' (.bl _)⟩⟩
theorem xe_one {op} (ha : XE X B a m fa) : XE X B (.BoolOp op [a] pos) m fa := ⟨ha.mono, pe_one ha.pe⟩
def mAndV (m m' : M) : M := fun e Q => m e (onB fun k => if k = true then m' e Q else Q (.d (.bool false)))
def mOrV (m m' : M) : M := fun e Q => m e (onB fun k => if k = true then Q (.d (.bool true)) else m' e Q)
theorem xe_and {m' : M} (ha : XE X B a m fa) (hb : XE X B (.BoolOp .And (b :: rest) pos) m' fb) : XE X B (.BoolOp .And (a :: b :: rest) pos) (mAndV m m') (sq fa fb) :=
  ⟨fun e P P' h q => ha.mono e _ _ (onB_mono fun c hc => by
    cases c with
    | true => rw [if_pos rfl] at hc ⊢; exact hb.mono e _ _ h hc
    | false => rw [if_neg (by decide)] at hc ⊢; exact h _ hc) q, peW (pe_and ha.pe hb.pe) fun σ H Q ⟨e, G, dd, rl, h⟩ => ha.go rl h fun u q v H' G' r' x' d' => by
      obtain ⟨k, e1, q⟩ := onB_ud q d'
      refine ⟨k, e1, ?_⟩
      cases k with
      | true =>
        rw [if_pos rfl] at q ⊢
        exact hb.go r' q fun u q v H2 G2 r2 x2 d2 => q v H2 G2 r2 (x'.trans x2) d2
      | false =>
        rw [if_neg (by decide)] at q ⊢
        exact q _ H' G' (r'.le (fb.2 _)) x' (.bl _)⟩
theorem xe_or {m' : M} (ha : XE X B a m fa) (hb : XE X B (.BoolOp .Or (b :: rest) pos) m' fb) : XE X B (.BoolOp .Or (a :: b :: rest) pos) (mOrV m m') (sq fa fb) :=
  ⟨fun e P P' h q => ha.mono e _ _ (onB_mono fun c hc => by
    cases c with
    | true => rw [if_pos rfl] at hc ⊢; exact h _ hc
    | false => rw [if_neg (by decide)] at hc ⊢; exact hb.mono e _ _ h hc) q, peW (pe_or ha.pe hb.pe) fun σ H Q ⟨e, G, dd, rl, h⟩ => ha.go rl h fun u q v H' G' r' x' d' => by
      obtain ⟨k, e1, q⟩ := onB_ud q d'
      refine ⟨k, e1, ?_⟩
      cases k with
      | true =>
        rw [if_pos rfl] at q ⊢
        exact q _ H' G' (r'.le (fb.2 _)) x' (.bl _)
      | false =>
        rw [if_neg (by decide)] at q ⊢
        exact hb.go r' q fun u q v H2 G2 r2 x2 d2 => q v H2 G2 r2 (x'.trans x2) d2⟩
def mIf (mt : MT) (ma mb : M) : M := fun e Q => mt e fun c => if c = true then ma e Q else mb e Q
theorem xe_if {c : Expr} (hc : XT X B c mt fc) (ha : XE X B a ma fa) (hb : XE X B b mb fb) : XE X B (.IfExp c a b pos) (mIf mt ma mb) (sq fc (mx fa fb)) :=
  ⟨fun e P P' h q => hc.mono e _ _ (fun k hk => by
    cases k with
    | true => rw [if_pos rfl] at hk ⊢; exact ha.mono e _ _ h hk
    | false => rw [if_neg (by decide)] at hk ⊢; exact hb.mono e _ _ h hk) q, peW (pe_ifExp hc.pt ha.pe hb.pe) fun σ H Q ⟨e, G, dd, rl, h⟩ => hc.go rl h fun k hk H1 G1 r1 x1 => by
      cases k with
      | true =>
        rw [if_pos rfl] at hk ⊢
        exact ha.go (r1.le (Nat.le_max_left _ _)) hk fun u q v H2 G2 r2 x2 d2 => q v H2 G2 r2 (x1.trans x2) d2
      | false =>
        rw [if_neg (by decide)] at hk ⊢
        exact hb.go (r1.le (Nat.le_max_right _ _)) hk fun u q v H2 G2 r2 x2 d2 => q v H2 G2 r2 (x1.trans x2) d2⟩
end

/-! ### arguments, displays -/
section
variable {es : List Expr} {m : M} {mr : MA}
theorem xa_nil : XA X B [] (fun _ Q => Q []) cz := ⟨fun e P P' h q => h _ q, paW pa_nil fun σ H Q ⟨e, G, dd, r, q⟩ => q [] H G r .refl .nil⟩
def mCons (m : M) (mr : MA) : MA := fun e Q => m e fun u => mr e fun us => Q (u :: us)
theorem xa_cons (ha : XE X B a m fa) (hr : XA X B es mr fr) (hs : starEach (a :: es) X.env = (false, eval a X.env) :: starEach es X.env := by rfl) : XA X B (a :: es) (mCons m mr) (sq fa fr) :=
  ⟨fun e P P' h q => ha.mono e _ _ (fun u hu => hr.mono e _ _ (fun us q => h _ q) hu) q, paW (pa_cons ha.pe hr.pa hs) fun σ H Q ⟨e, G, dd, r, h⟩ =>
    ha.go r h fun u hu v1 H1 G1 r1 x1 d1 => hr.go r1 hu fun us q vs H2 G2 r2 x2 d2 => q (v1 :: vs) H2 G2 r2 (x1.trans x2) (.cons (d1.mono x2.same) d2)⟩
/-- all of these are data -/
def allD : List U → Option (List PyData)
  | [] => some []
  | .d x :: us => (allD us).map (x :: ·)
  | _ :: _ => none
theorem allD_dats {K : PySem.W.Frag} {pt : Pt} {G : Hp} : ∀ {us : List U} {vs : List V} {ds : List PyData}, UDs K pt G vs us → allD us = some ds → Dats K G vs ds
  | _, _, _, .nil, h => by cases h; exact .nil
  | .d x :: us, _, ds, .cons d t, h => by
    unfold allD at h
    cases q : allD us with
    | none => rw [q] at h; cases h
    | some ys => rw [q] at h; cases h; exact .cons d (allD_dats t q)
  | .pot :: us, _, ds, .cons d t, h => by cases h
  | .raw _ :: us, _, ds, .cons d t, h => by cases h
  | .scr _ :: us, _, ds, .cons d t, h => by cases h
  | .tdic _ :: us, _, ds, .cons d t, h => by cases h
  | .fz _ :: us, _, ds, .cons d t, h => by cases h
def onDs (Q : List PyData → Prop) (us : List U) : Prop := match allD us with
  | some ds => ds.length ≤ 1000000 ∧ Q ds
  | none => False
theorem onDs_mono {Q Q' : List PyData → Prop} (h : ∀ b, Q b → Q' b) {us : List U} (q : onDs Q us) : onDs Q' us := by
  unfold onDs at q ⊢
  split at q
  · exact ⟨q.1, h _ q.2⟩
  · cases q
theorem onDs_out {Q : List PyData → Prop} {us : List U} (q : onDs Q us) : ∃ ds, allD us = some ds ∧ ds.length ≤ 1000000 ∧ Q ds := by
  unfold onDs at q
  split at q
  · exact ⟨_, by assumption, q⟩
  · cases q
theorem le_line {n : Nat} (h : n ≤ 1000000) : n ≤ sizeLine := Nat.le_trans h (by decide)
theorem lt_line {n : Nat} (h : n < 1000000) : n < sizeLine := Nat.lt_of_lt_of_le h (by decide)
theorem xe_tup {x1} (h : XA X B es mr f) : XE X B (.Tuple es x1 pos) (fun e Q => mr e (onDs fun ds => Q (.d (.tuple ds)))) f :=
  ⟨fun e P P' hh q => h.mono e _ _ (fun us q => onDs_mono (fun _ q => hh _ q) q) q, peW (pe_tup h.pa) fun σ H Q ⟨e, G, dd, r, hh⟩ => h.go r hh fun us q vs H1 G1 r1 x1 d1 => by
    obtain ⟨ds, e1, hl, q⟩ := onDs_out q
    have dd := allD_dats d1 e1
    refine ⟨by rw [dd.len]; exact le_line hl, fun p hp => ?_⟩
    have sg := same_laid (r1.gold hp) (HO.tup vs)
    exact q _ _ _ (r1.new hp _) (x1.trans (nxt_laid (r1.gold hp) hp _)) (.tup upd_same (dd.mono sg))⟩
theorem xo_lst (h : XA X B es mr f) : XO X B (.List es pos) (fun e Q => mr e (onDs Q)) f :=
  ⟨fun e P P' hh q => h.mono e _ _ (fun us q => onDs_mono hh q) q, peW (pe_lst h.pa) fun σ H Q ⟨e, G, dd, r, hh⟩ => h.go r hh fun us q vs H1 G1 r1 x1 d1 => by
    obtain ⟨ds, e1, hl, q⟩ := onDs_out q
    have dd := allD_dats d1 e1
    refine ⟨by rw [dd.len]; exact le_line hl, fun p hp => ?_⟩
    exact q p vs _ _ (r1.laid hp _) (x1.trans (nxt_only hp _)) (ext_both x1.ext hp (r1.nopot hp)) (r1.gold hp) upd_same dd⟩
/-- a new list is data at once -/
theorem rel_no {K : PySem.W.Frag} {e : En} {σ : L2.St} {G H G' H' : Hp} {p : Addr} {bd bd' : Nat} (r : Rel K B bd e σ G H) (r' : Rel K B bd' e σ G' H') (n : H p = none) : ∀ (i : Nat) (t : Sl), e[i]? = some (some t) → t.isOwn = true → σ[i]? ≠ some (some (.ref p)) := fun i ds q hz z => by
  obtain ⟨p', vs, h1, h2, _⟩ := r.own i ds q hz
  rw [z] at h1; cases h1
  rw [n] at h2; cases h2
theorem xe_o {x : Expr} {mo : MO} (h : XO X B x mo f) : XE X B x (fun e Q => mo e fun ds => Q (.d (.list ds))) f :=
  ⟨fun e P P' hh q => h.mono e _ _ (fun us q => hh _ q) q, peW h.pe fun σ H Q ⟨e, G, dd, r, hh⟩ => h.go r hh fun ds q p vs H1 G1 r1 x1 n1 g1 h1 d1 => by
    have sg := same_laid g1 (HO.lst vs)
    exact q _ H1 _ (r1.froze h1 g1 (r.old n1) (r.nopot n1) (rel_no r r1 n1)) (x1.froze g1 n1 _) (.lst upd_same (d1.mono sg))⟩
theorem xl_o {x : Expr} {mo : MO} (h : XO X B x mo f) : XL X B x (fun e Q => mo e (Q .lst)) f :=
  ⟨fun e P P' hh q => h.mono e _ _ (fun us q => hh _ _ q) q, peW h.pe fun σ H Q ⟨e, G, dd, r, hh⟩ => h.go r hh fun ds q p vs H1 G1 r1 x1 n1 g1 h1 d1 =>
    q _ H1 G1 r1 x1 ⟨p, vs, rfl, ⟨h1, r.nopot n1⟩, d1⟩⟩
def onSq (Q : Kd → List PyData → Prop) : U → Prop
  | .d (.list ds) => Q .lst ds
  | .d (.tuple ds) => Q .tup ds
  | .scr ds => Q .scr ds
  | _ => False
theorem onSq_mono {Q Q' : Kd → List PyData → Prop} (h : ∀ k b, Q k b → Q' k b) : ∀ {u : U}, onSq Q u → onSq Q' u
  | .d (.list ds), q => h _ _ q
  | .d (.tuple ds), q => h _ _ q
  | .scr ds, q => h _ _ q
theorem onSq_out {K : PySem.W.Frag} {e : En} {σ : L2.St} {G H : Hp} {Q : Kd → List PyData → Prop} {v : V} (r : Rel K B bd e σ G H) : ∀ {u : U}, onSq Q u → UD K B.pt G v u → ∃ k ds, SqD K B.pt G H v k ds ∧ Q k ds
  | .d (.list ds), q, d => by
    cases d with
    | lst s t =>
      refine ⟨.lst, ds, ⟨_, _, rfl, ⟨r.sub _ _ s, fun hp => ?_⟩, t⟩, q⟩
      rw [r.gpot _ hp] at s; cases s
  | .d (.tuple ds), q, d => by
    cases d with
    | tup s t => exact ⟨.tup, ds, ⟨_, _, rfl, s, t⟩, q⟩
  | .scr ds, q, d => by
    obtain ⟨a, xs, e1, s, t⟩ := d
    exact ⟨.scr, ds, ⟨_, _, e1, s, t⟩, q⟩
theorem xl_e {x : Expr} {m : M} (h : XE X B x m f) : XL X B x (fun e Q => m e (onSq Q)) f :=
  ⟨fun e P P' hh q => h.mono e _ _ (fun us q => onSq_mono hh q) q, peW h.pe fun σ H Q ⟨e, G, dd, r, hh⟩ => h.go r hh fun u q v H1 G1 r1 x1 d1 => by
    obtain ⟨k, ds, d, q⟩ := onSq_out r1 q d1
    exact q v H1 G1 r1 x1 d⟩
def getL (o : Option (Option Sl)) (Q : Kd → List PyData → Prop) : Prop := match o with
  | some (some (.val u)) => onSq Q u
  | some (some (.own ds)) => Q .lst ds
  | _ => False
theorem xl_var (i : Nat) {x : Str} {pos : Pos} (hN : X.N[i]? = some x := by rfl) (hv : Vis X.env.scope x := by first | exact Or.inl rfl | exact Or.inr (Or.inl rfl) | exact Or.inr (Or.inr rfl)) (hd : (x == ("__debug__" : Str)) = false := by decide)
    (hcd : (x == ("__classdict__" : Str)) = false := by decide) : XL X B (.Name x pos) (fun e Q => getL e[i]? Q) cz :=
  ⟨fun e P P' h q => by
    revert q
    cases e[i]? with
    | none => exact fun q => q
    | some o =>
      cases o with
      | none => exact fun q => q
      | some s =>
        cases s with
        | val u => exact fun q => onSq_mono h q
        | own ds => exact fun q => h _ _ q
        | dic kvs => exact fun q => q, peW (pe_var hN hv hd hcd) fun σ H Q ⟨e, G, dd, r, h⟩ => by
    have look : ∀ o, e[i]? = o → getL o (fun k ds => ∀ v H' G', Rel X.K B dd e σ G' H' → Nxt B.pt G H G' H' → SqD X.K B.pt G' H' v k ds → Q v H') → ∃ v, σ[i]? = some (some v) ∧ Q v H := fun o ho q => by
      cases o with
      | none => exact q.elim
      | some o =>
        cases o with
        | none => exact q.elim
        | some s =>
          cases s with
          | val u =>
            obtain ⟨v, h1, h2⟩ := r.val i u ho
            obtain ⟨k, ds, d, q2⟩ := onSq_out r (show onSq (fun k ds => ∀ v H' G', Rel X.K B dd e σ G' H' → Nxt B.pt G H G' H' → SqD X.K B.pt G' H' v k ds → Q v H') u from q) h2
            exact ⟨v, h1, q2 v H G r .refl d⟩
          | own ds =>
            obtain ⟨p, vs, h1, h2, h3, h4, h5, h6⟩ := r.ownL i ds ho
            exact ⟨_, h1, q _ H G r .refl ⟨p, vs, rfl, ⟨h2, h6⟩, h3⟩⟩
          | dic kvs => exact q.elim
    exact look _ rfl h⟩
end
end
end Fd

set_option Elab.async false
set_option linter.all false
set_option maxRecDepth 100000
set_option maxHeartbeats 4000000
/-! Fd, part C: statements, targets, loops, defs. -/
namespace Fd
open PySem PySem.Spec PyProof.Rows L2

/-! ### slots change -/
section
variable {K : PySem.W.Frag} {B : Bs} {e : En} {σ : L2.St} {G H : Hp}
/-- what the slots tell and the frame's slots, one by one -/
theorem Rel.renew {e' : En} {σ' : L2.St} (r : Rel K B bd e σ G H) (len : e'.length = σ'.length)
    (val : ∀ (i : Nat) (u : U), e'[i]? = some (some (Sl.val u)) → ∃ v, σ'[i]? = some (some v) ∧ UD K B.pt G v u)
    (own : ∀ (i : Nat) (t : Sl), e'[i]? = some (some t) → t.isOwn = true → ∃ p o, σ'[i]? = some (some (.ref p)) ∧ H p = some o ∧ OwnD K G t o ∧ G p = none ∧ B.H0 p = none ∧ p ∉ B.pt.pots)
    (sep : ∀ (i j : Nat) (t u : Sl) (p : Addr), e'[i]? = some (some t) → e'[j]? = some (some u) → t.isOwn = true → u.isOwn = true → σ'[i]? = some (some (.ref p)) → σ'[j]? = some (some (.ref p)) → i = j) : Rel K B bd e' σ' G H :=
  ⟨r.sub, r.sub0, r.grow, r.gpot, r.J, r.frame, len, val, own, sep⟩
theorem set_get {α : Type} {l : List α} {i j : Nat} {x y : α} (h : (l.set i x)[j]? = some y) : (j = i ∧ y = x ∧ i < l.length) ∨ (j ≠ i ∧ l[j]? = some y) := by
  by_cases q : j = i
  · subst q
    rcases Nat.lt_or_ge j l.length with hl | hl
    · rw [List.getElem?_set_self hl] at h
      exact .inl ⟨rfl, (Option.some.inj h).symm, hl⟩
    · rw [List.getElem?_eq_none (by rw [List.length_set]; exact hl)] at h; cases h
  · rw [List.getElem?_set_ne (fun z => q z.symm)] at h
    exact .inr ⟨q, h⟩
theorem set_ne {α : Type} {l : List α} {i j : Nat} {x : α} (h : j ≠ i) : (l.set i x)[j]? = l[j]? := List.getElem?_set_ne fun z => h z.symm
/-- a value is stored -/
theorem Rel.store (r : Rel K B bd e σ G H) {v : V} {u : U} (d : UD K B.pt G v u) (i : Nat) : Rel K B bd (e.set i (some (.val u))) (σ.set i (some v)) G H := by
  refine r.renew (by rw [List.length_set, List.length_set]; exact r.len) (fun j w q => ?_) (fun j ds q hz => ?_) (fun j l ds es p q1 q2 z1 z2 q3 q4 => ?_)
  · rcases set_get q with ⟨h1, h2, h3⟩ | ⟨h1, h2⟩
    · subst h1
      cases h2
      exact ⟨v, List.getElem?_set_self (by rw [← r.len]; exact h3), d⟩
    · rw [set_ne h1]; exact r.val j w h2
  · rcases set_get q with ⟨_, h2, _⟩ | ⟨h1, h2⟩
    · cases h2; cases hz
    · rw [set_ne h1]; exact r.own j ds h2 hz
  · rcases set_get q1 with ⟨_, h2, _⟩ | ⟨h1, h2⟩
    · cases h2; cases z1
    · rcases set_get q2 with ⟨_, h4, _⟩ | ⟨h3, h4⟩
      · cases h4; cases z2
      · rw [set_ne h1] at q3
        rw [set_ne h3] at q4
        exact r.sep j l ds es p h2 h4 z1 z2 q3 q4
/-- a list of its own is stored -/
theorem Rel.storeS (r : Rel K B bd e σ G H) {p : Addr} {ob : HO} {t : Sl} (ht : t.isOwn = true) (h : H p = some ob) (d : OwnD K G t ob) (g : G p = none) (o : B.H0 p = none) (np : p ∉ B.pt.pots)
    (no : ∀ (i : Nat) (t : Sl), e[i]? = some (some t) → t.isOwn = true → σ[i]? ≠ some (some (.ref p))) (i : Nat) : Rel K B bd (e.set i (some t)) (σ.set i (some (.ref p))) G H := by
  refine r.renew (by rw [List.length_set, List.length_set]; exact r.len) (fun j w q => ?_) (fun j es q hz => ?_) (fun j l ds1 es p' q1 q2 z1 z2 q3 q4 => ?_)
  · rcases set_get q with ⟨_, h2, _⟩ | ⟨h1, h2⟩
    · cases h2; cases ht
    · rw [set_ne h1]; exact r.val j w h2
  · rcases set_get q with ⟨h1, h2, h3⟩ | ⟨h1, h2⟩
    · subst h1
      cases h2
      exact ⟨p, ob, List.getElem?_set_self (by rw [← r.len]; exact h3), h, d, g, o, np⟩
    · rw [set_ne h1]; exact r.own j es h2 hz
  · rcases set_get q1 with ⟨h1, _, h5⟩ | ⟨h1, h2⟩
    · rcases set_get q2 with ⟨h3, _, _⟩ | ⟨h3, h4⟩
      · rw [h1, h3]
      · rw [set_ne h3] at q4
        rw [h1, List.getElem?_set_self (by rw [← r.len]; exact h5)] at q3
        cases q3
        exact absurd q4 (no l es h4 z2)
    · rcases set_get q2 with ⟨h3, _, h5⟩ | ⟨h3, h4⟩
      · rw [set_ne h1] at q3
        rw [h3, List.getElem?_set_self (by rw [← r.len]; exact h5)] at q4
        cases q4
        exact absurd q3 (no j ds1 h2 z1)
      · rw [set_ne h1] at q3
        rw [set_ne h3] at q4
        exact r.sep j l ds1 es p' h2 h4 z1 z2 q3 q4
theorem Rel.storeO (r : Rel K B bd e σ G H) {p : Addr} {vs : List V} {ds : List PyData} (h : H p = some (.lst vs)) (d : Dats K G vs ds) (g : G p = none) (o : B.H0 p = none) (np : p ∉ B.pt.pots)
    (no : ∀ (i : Nat) (t : Sl), e[i]? = some (some t) → t.isOwn = true → σ[i]? ≠ some (some (.ref p))) (i : Nat) : Rel K B bd (e.set i (some (.own ds))) (σ.set i (some (.ref p))) G H := r.storeS rfl h (.ofL d) g o np no i
/-- a slot is told no more -/
theorem Rel.drop (r : Rel K B bd e σ G H) (i : Nat) : Rel K B bd (e.set i none) σ G H := by
  refine r.renew (by rw [List.length_set]; exact r.len) (fun j w q => ?_) (fun j ds q hz => ?_) (fun j l ds es p q1 q2 z1 z2 q3 q4 => ?_)
  · rcases set_get q with ⟨_, h2, _⟩ | ⟨_, h2⟩
    · cases h2
    · exact r.val j w h2
  · rcases set_get q with ⟨_, h2, _⟩ | ⟨_, h2⟩
    · cases h2
    · exact r.own j ds h2 hz
  · rcases set_get q1 with ⟨_, h2, _⟩ | ⟨h1, h2⟩
    · cases h2
    · rcases set_get q2 with ⟨_, h4, _⟩ | ⟨h3, h4⟩
      · cases h4
      · exact r.sep j l ds es p h2 h4 z1 z2 q3 q4
/-- .. told as what it holds -/
theorem Rel.put (r : Rel K B bd e σ G H) {v : V} {u : U} {i : Nat} (h : σ[i]? = some (some v)) (d : UD K B.pt G v u) : Rel K B bd (e.set i (some (.val u))) σ G H := by
  have hs : σ.set i (some v) = σ := by
    apply List.ext_getElem?
    intro j
    by_cases q : j = i
    · subst q
      rw [h]
      rcases Nat.lt_or_ge j σ.length with hl | hl
      · exact List.getElem?_set_self hl
      · rw [List.getElem?_eq_none hl] at h; cases h
    · exact set_ne q
  have := r.store d i
  rw [hs] at this
  exact this
/-- an own list becomes data -/
theorem Rel.freeze (r : Rel K B bd e σ G H) {i : Nat} {ds : List PyData} (h : e[i]? = some (some (Sl.own ds))) : ∃ G', Rel K B bd (e.set i (some (.val (.d (.list ds))))) σ G' H ∧ Same G G' := by
  obtain ⟨p, vs, h1, h2, h3, h4, h5, h6⟩ := r.ownL i ds h
  have r1 := (r.drop i).froze h2 h4 h5 h6 fun j es q hz z => by
    rcases set_get q with ⟨_, q2, _⟩ | ⟨q1, q2⟩
    · cases q2
    · exact q1 (r.sep j i es _ p q2 h hz rfl z h1)
  have sg := same_laid h4 (HO.lst vs)
  have r2 := r1.put (u := .d (.list ds)) h1 (Dat.lst upd_same (h3.mono sg))
  rw [List.set_set] at r2
  exact ⟨_, r2, sg⟩
/-- an own dict becomes a value -/
theorem Rel.freezeT (r : Rel K B bd e σ G H) {i : Nat} {kvs : List (List Int × PyData)} (h : e[i]? = some (some (Sl.dic kvs))) : ∃ G', Rel K B bd (e.set i (some (.val (.tdic kvs)))) σ G' H ∧ Same G G' := by
  obtain ⟨p, ws, h1, h2, h3, h4, h5, h6⟩ := r.ownT i kvs h
  have r1 := (r.drop i).froze h2 h4 h5 h6 fun j es q hz z => by
    rcases set_get q with ⟨_, q2, _⟩ | ⟨q1, q2⟩
    · cases q2
    · exact q1 (r.sep j i es _ p q2 h hz rfl z h1)
  have sg := same_laid h4 (HO.dT ws)
  have r2 := r1.put (u := .tdic kvs) h1 ⟨p, ws, rfl, upd_same, h3.1, h3.2.mono sg⟩
  rw [List.set_set] at r2
  exact ⟨_, r2, sg⟩
/-- an own thing changes -/
theorem Rel.changeS (r : Rel K B bd e σ G H) {i : Nat} {t t' : Sl} {p : Addr} {ob : HO} (ht : t.isOwn = true) (ht' : t'.isOwn = true) (h : e[i]? = some (some t)) (hp : σ[i]? = some (some (.ref p))) (d : OwnD K G t' ob) : Rel K B bd (e.set i (some t')) σ G (upd H p ob) := by
  obtain ⟨p', vs, h1, h2, h3, h4, h5, h6⟩ := r.own i t h ht
  rw [hp] at h1; cases h1
  have hs : σ.set i (some (.ref p)) = σ := by
    apply List.ext_getElem?
    intro j
    by_cases q : j = i
    · subst q
      rw [hp]
      rcases Nat.lt_or_ge j σ.length with hl | hl
      · exact List.getElem?_set_self hl
      · rw [List.getElem?_eq_none hl] at hp; cases hp
    · exact set_ne q
  have r0 : Rel K B bd (e.set i none) σ G (upd H p ob) := by
    have r1 := r.drop i
    refine ⟨fun a o q => ?_, r1.sub0, r1.grow, r1.gpot, B.pt.loc H _ (fun a ha => upd_ne fun z => h6 (z ▸ ha)) r1.J, fun a o q n => ?_, r1.len, r1.val, fun j fs q hz => ?_, r1.sep⟩
    · have ne : a ≠ p := fun z => by rw [z, h4] at q; cases q
      rw [upd_ne ne]; exact r1.sub a o q
    · have ne : a ≠ p := fun z => by rw [z, h5] at q; cases q
      rw [upd_ne ne]; exact r1.frame a o q n
    · obtain ⟨p2, ws2, k1, k2, k3⟩ := r1.own j fs q hz
      have ne : p2 ≠ p := fun z => by
        rcases set_get q with ⟨_, q2, _⟩ | ⟨q1, q2⟩
        · cases q2
        · exact q1 (r.sep j i fs _ p q2 h hz ht (z ▸ k1) hp)
      exact ⟨p2, ws2, k1, by rw [upd_ne ne]; exact k2, k3⟩
  have r2 := r0.storeS (i := i) ht' upd_same d h4 h5 h6 fun j fs q hz z => by
    rcases set_get q with ⟨_, q2, _⟩ | ⟨q1, q2⟩
    · cases q2
    · exact q1 (r.sep j i fs _ p q2 h hz ht z hp)
  rw [List.set_set, hs] at r2
  exact r2
/-- an own list changes -/
theorem Rel.change (r : Rel K B bd e σ G H) {i : Nat} {ds es : List PyData} {p : Addr} {ws : List V} (h : e[i]? = some (some (Sl.own ds))) (hp : σ[i]? = some (some (.ref p))) (d : Dats K G ws es) : Rel K B bd (e.set i (some (.own es))) σ G (upd H p (.lst ws)) := r.changeS rfl rfl h hp (.ofL d)
end

/-! ### statements -/
section
variable {X : Cx} {B : Bs} {K : PySem.W.Frag}
theorem kof_le {G G' : Hp} {d d' : Nat} (s : Same G G') (l : d ≤ d') (D : Ends) : Kle (kOf K B G d D) (kOf K B G' d' D) :=
  ⟨fun e q σ' H' G2 r s2 => q σ' H' G2 (r.le l) (s.trans s2), fun u q v e' σ' H' G2 r s2 x => q v e' σ' H' G2 (r.le l) (s.trans s2) x, fun e q σ' H' G2 r s2 => q σ' H' G2 (r.le l) (s.trans s2), fun e q σ' H' G2 r s2 => q σ' H' G2 (r.le l) (s.trans s2)⟩
theorem XSs.go {sts : List Stmt} {m : MS} {D : Ends} {e : En} {σ : L2.St} {G H : Hp} {k : Kt} (h : XSs X B sts m f) (r : Rel X.K B (f.1 bd) e σ G H) (hm : m e k) (hk : Kle k (kOf X.K B G bd D)) : tMS X.K B m f D σ H := ⟨e, G, _, r, h.mono e _ _ hk hm⟩
theorem XS.go {sts : Stmt} {m : MS} {D : Ends} {e : En} {σ : L2.St} {G H : Hp} {k : Kt} (h : XS X B sts m f) (r : Rel X.K B (f.1 bd) e σ G H) (hm : m e k) (hk : Kle k (kOf X.K B G bd D)) : tMS X.K B m f D σ H := ⟨e, G, _, r, h.mono e _ _ hk hm⟩
def mNext : MS := fun e k => k.nx e
def mSeq (m m' : MS) : MS := fun e k => m e { k with nx := fun e' => m' e' k }
variable {st : Stmt} {rest : List Stmt} {m m' : MS}
theorem xss_nil : XSs X B [] mNext cz := ⟨fun e k k' h q => h.nx e q, pssW pss_nil fun D σ H ⟨e, G, dd, r, q⟩ => q σ H G r (Same.refl G)⟩
theorem xss_cons (h1 : XS X B st m f1) (h2 : XSs X B rest m' f2) : XSs X B (st :: rest) (mSeq m m') (sq f1 f2) :=
  ⟨fun e k k' h q => h1.mono e { k with nx := fun e' => m' e' k } { k' with nx := fun e' => m' e' k' } ⟨fun e' q => h2.mono e' _ _ h q, h.rt, h.bk, h.ct⟩ q, pssW (pss_cons h1.ps h2.ps) fun D σ H ⟨e, G, dd, r, q⟩ =>
    h1.go r q ⟨fun e' q σ' H' G' r' s' => h2.go r' q (kof_le s' (Nat.le_refl _) D), fun u q v e' σ' H' G' r' s' x => q v e' σ' H' G' (r'.le (f2.2 _)) s' x, fun e q σ' H' G' r' s' => q σ' H' G' (r'.le (f2.2 _)) s', fun e q σ' H' G' r' s' => q σ' H' G' (r'.le (f2.2 _)) s'⟩⟩
theorem xss_one (h1 : XS X B st m f1) : XSs X B [st] m f1 := ⟨h1.mono, pssW (pss_one h1.ps) fun D σ H q => q⟩
def mFreeze (i : Nat) (m : MS) : MS := fun e k => match e[i]? with
  | some (some (.own ds)) => m (e.set i (some (.val (.d (.list ds))))) k
  | _ => False
theorem mFreeze_out {i : Nat} {m : MS} {e : En} {k : Kt} (h : mFreeze i m e k) : ∃ ds, e[i]? = some (some (Sl.own ds)) ∧ m (e.set i (some (.val (.d (.list ds))))) k := by
  unfold mFreeze at h
  split at h
  · exact ⟨_, by assumption, h⟩
  · cases h
theorem xss_freeze (i : Nat) {sts : List Stmt} (h1 : XSs X B sts m f1) : XSs X B sts (mFreeze i m) f1 :=
  ⟨fun e k k' h q => by
    obtain ⟨ds, h2, q⟩ := mFreeze_out q
    unfold mFreeze
    rw [h2]
    exact h1.mono _ _ _ h q, pssW h1.ps fun D σ H ⟨e, G, dd, r, q⟩ => by
    obtain ⟨ds, h2, q⟩ := mFreeze_out q
    obtain ⟨G', r', s⟩ := r.freeze h2
    exact h1.go r' q (kof_le s (Nat.le_refl _) D)⟩
variable {x : Expr} {ma : M} {mo : MO} {mt : MT} {pos : Pos}
def mSet (i : Nat) (ma : M) : MS := fun e k => ma e fun u => k.nx (e.set i (some (.val u)))
theorem mSet_mono (ha : XE X B x ma fa) (i : Nat) : ∀ e k k', Kle k k' → mSet i ma e k → mSet i ma e k' := fun e k k' h q => ha.mono e _ _ (fun u q => h.nx _ q) q
/-- by any way in which the layer stores an expression's value -/
theorem xs_store {i : Nat} {te : TE} (ha : XE X B x ma fa) (hp : PS X st (tAsg te (gName i))) (hw : ∀ σ H Q, tM X.K B ma fa σ H Q → te σ H Q) : XS X B st (mSet i ma) fa :=
  ⟨mSet_mono ha i, psW hp fun D σ H ⟨e, G, dd, r, q⟩ => hw _ _ _ (ha.go r q fun u q v H' G' r' x' d' => q _ H' G' (r'.store d' i) x'.same)⟩
def mSetO (i : Nat) (mo : MO) : MS := fun e k => mo e fun ds => k.nx (e.set i (some (.own ds)))
theorem xs_storeO {i : Nat} {te : TE} (ha : XO X B x mo fa) (hp : PS X st (tAsg te (gName i))) (hw : ∀ σ H Q, tMO X.K B mo fa σ H Q → te σ H Q) : XS X B st (mSetO i mo) fa :=
  ⟨fun e k k' h q => ha.mono e _ _ (fun u q => h.nx _ q) q, psW hp fun D σ H ⟨e, G, dd, r, q⟩ => hw _ _ _ (ha.go r q fun ds q p vs H' G' r' x' n g h d =>
    q _ H' G' (r'.storeO h d g (r.old n) (r.nopot n) (rel_no r r' n) i) x'.same)⟩
theorem xs_set (i : Nat) {n : Str} {pos' : Pos} (hN : X.N.Nodup) (ha : XE X B x ma fa) (hi : X.N[i]? = some n := by rfl) (hx : Loc X.env.scope n := by first | exact .inl rfl | exact .inr rfl) (hs : swapsWith x (some (.Name n pos')) pos.line X.env = pure false := by rfl)
    (hf : X.fn n = true ∨ X.env.scope.names.lookup n = some .local := by first | exact .inl rfl | exact .inr rfl) : XS X B (.Assign [.Name n pos'] x pos) (mSet i ma) fa :=
  xs_store ha (ps_set hN hi hx ha.pe hs hf) fun _ _ _ q => q
theorem xs_setO (i : Nat) {n : Str} {pos' : Pos} (hN : X.N.Nodup) (ha : XO X B x mo fa) (hi : X.N[i]? = some n := by rfl) (hx : Loc X.env.scope n := by first | exact .inl rfl | exact .inr rfl) (hs : swapsWith x (some (.Name n pos')) pos.line X.env = pure false := by rfl)
    (hf : X.fn n = true ∨ X.env.scope.names.lookup n = some .local := by first | exact .inl rfl | exact .inr rfl) : XS X B (.Assign [.Name n pos'] x pos) (mSetO i mo) fa :=
  xs_storeO ha (ps_set hN hi hx ha.pe hs hf) fun _ _ _ q => q
def mRet (ma : M) : MS := fun e k => ma e k.rt
theorem xs_ret (ha : XE X B x ma fa) : XS X B (.Return (some x) pos) (mRet ma) fa :=
  ⟨fun e k k' h q => ha.mono e _ _ h.rt q, psW (ps_ret ha.pe) fun D σ H ⟨e, G, dd, r, q⟩ => ha.go r q fun u q v H' G' r' x' d' => q v e σ H' G' r' x'.same d'⟩
def mDrop (ma : M) : MS := fun e k => ma e fun _ => k.nx e
theorem xs_expr (ha : XE X B x ma fa) (hs : swapsWith x none pos.line X.env = pure false := by rfl) : XS X B (.Expr x pos) (mDrop ma) fa :=
  ⟨fun e k k' h q => ha.mono e _ _ (fun _ q => h.nx e q) q, psW (ps_expr ha.pe hs) fun D σ H ⟨e, G, dd, r, q⟩ => ha.go r q fun u q v H' G' r' x' d' => q σ H' G' r' x'.same⟩
def mIfS (mt : MT) (m m' : MS) : MS := fun e k => mt e fun c => if c = true then m e k else m' e k
theorem xs_if {c : Expr} {as bs : List Stmt} (hc : XT X B c mt fc) (ha : XSs X B as m fa) (hb : XSs X B bs m' fb) : XS X B (.If c as bs pos) (mIfS mt m m') (sq fc (mx fa fb)) :=
  ⟨fun e k k' h q => hc.mono e _ _ (fun c q => by
    cases c with
    | true => rw [if_pos rfl] at q ⊢; exact ha.mono e _ _ h q
    | false => rw [if_neg (by decide)] at q ⊢; exact hb.mono e _ _ h q) q, psW (ps_if hc.pt ha.ps hb.ps) fun D σ H ⟨e, G, dd, r, q⟩ => hc.go r q fun c q H' G' r' x' => by
    cases c with
    | true => rw [if_pos rfl] at q ⊢; exact ha.go (r'.le (Nat.le_max_left _ _)) q (kof_le x'.same (Nat.le_refl _) D)
    | false => rw [if_neg (by decide)] at q ⊢; exact hb.go (r'.le (Nat.le_max_right _ _)) q (kof_le x'.same (Nat.le_refl _) D)⟩
theorem xs_break : XS X B (.Break pos) (fun e k => k.bk e) cz := ⟨fun e k k' h q => h.bk e q, psW ps_break fun D σ H ⟨e, G, dd, r, q⟩ => q σ H G r (Same.refl G)⟩
theorem xs_continue : XS X B (.Continue pos) (fun e k => k.ct e) cz := ⟨fun e k k' h q => h.ct e q, psW ps_continue fun D σ H ⟨e, G, dd, r, q⟩ => q σ H G r (Same.refl G)⟩
theorem xs_pass : XS X B (.Pass pos) mNext cz := ⟨fun e k k' h q => h.nx e q, psW ps_pass fun D σ H ⟨e, G, dd, r, q⟩ => q σ H G r (Same.refl G)⟩
theorem xs_never : XS X B st (fun _ _ => False) cz := ⟨fun e k k' h q => q, psW ps_never fun D σ H ⟨e, G, dd, r, q⟩ => q⟩
theorem xs_doc {t j pos pos'} : XS X B (.Expr (.Constant (.str t) j pos) pos') mNext cz := ⟨fun e k k' h q => h.nx e q, psW ps_doc fun D σ H ⟨e, G, dd, r, q⟩ => q σ H G r (Same.refl G)⟩
/-- a while: W tells, by a number that falls, what the slots hold -/
def mWhile (mt : MT) (mb : MS) : MS := fun e k => ∃ W : Nat → En → Prop, (∃ n, W n e) ∧ ∀ n e, W n e → mt e fun c =>
  if c = true then mb e { nx := fun e' => ∃ n', n' < n ∧ W n' e', rt := k.rt, bk := k.nx, ct := fun e' => ∃ n', n' < n ∧ W n' e' } else k.nx e
theorem xs_while {c : Expr} {body : List Stmt} (hc : XT X B c mt fc) (hb : XSs X B body m fb) (hz1 : ∀ d, fc.1 d ≤ d := by intro d; dsimp only; omega) (hz2 : ∀ d, fb.1 d ≤ d := by intro d; dsimp only; omega) (hp : PassesOwn (model X.prog X.w) X.A X.env X.xe := by exact PassesOwn.never) : XS X B (.While c body [] pos) (mWhile mt m) cz :=
  ⟨fun e k k' h ⟨W, w0, q⟩ => ⟨W, w0, fun n e w => hc.mono e _ _ (fun c q => by
    cases c with
    | true => rw [if_pos rfl] at q ⊢; exact hb.mono e { nx := fun e' => ∃ n', n' < n ∧ W n' e', rt := k.rt, bk := k.nx, ct := fun e' => ∃ n', n' < n ∧ W n' e' } _ ⟨fun _ q => q, h.rt, h.nx, fun _ q => q⟩ q
    | false => rw [if_neg (by decide)] at q ⊢; exact h.nx e q) (q n e w)⟩, psW (ps_while hp hc.pt hb.ps) fun D σ H ⟨e, G, dd, r, W, ⟨n0, w0⟩, q⟩ => by
    refine ⟨fun n σ H => ∃ e G', Rel X.K B dd e σ G' H ∧ Same G G' ∧ W n e, ⟨n0, e, G, r, Same.refl G, w0⟩, fun n σ H ⟨e, G1, r, s1, w⟩ => hc.go (r.le (hz1 dd)) (q n e w) fun c q H2 G2 r2 x2 => ?_⟩
    cases c with
    | true =>
      rw [if_pos rfl] at q ⊢
      refine ⟨fun σ' H' => ∃ n', n' < n ∧ ∃ e G', Rel X.K B dd e σ' G' H' ∧ Same G G' ∧ W n' e, fun σ' H' q => q, hb.go (r2.le (hz2 dd)) q ⟨?_, ?_, ?_, ?_⟩⟩
      · exact fun e ⟨n', h1, h2⟩ σ' H' G' r' s' => ⟨n', h1, e, G', r', s1.trans (x2.same.trans s'), h2⟩
      · exact fun u q v e' σ' H' G' r' s' d => q v e' σ' H' G' r' (s1.trans (x2.same.trans s')) d
      · exact fun e q σ' H' G' r' s' => q σ' H' G' r' (s1.trans (x2.same.trans s'))
      · exact fun e ⟨n', h1, h2⟩ σ' H' G' r' s' => ⟨n', h1, e, G', r', s1.trans (x2.same.trans s'), h2⟩
    | false =>
      rw [if_neg (by decide)] at q ⊢
      exact q σ H2 G2 r2 (s1.trans x2.same)⟩
end

/-! ### targets -/
abbrev MG := U → En → (En → Prop) → Prop
abbrev MGs := List PyData → En → (En → Prop) → Prop
def tMG (K : PySem.W.Frag) (B : Bs) (js : List Nat) (m : MG) : TG := fun v σ H Q => ∃ e G dd u, Rel K B dd e σ G H ∧ UD K B.pt G v u ∧ m u e fun e' => ∀ σ', Rel K B dd e' σ' G H → (∀ j, j ∉ js → σ'[j]? = σ[j]?) → σ'.length = σ.length → Q σ' H
def tMGs (K : PySem.W.Frag) (B : Bs) (js : List Nat) (m : MGs) : TGs := fun vs σ H Q => ∃ e G dd ds, Rel K B dd e σ G H ∧ Dats K G vs ds ∧ m ds e fun e' => ∀ σ', Rel K B dd e' σ' G H → (∀ j, j ∉ js → σ'[j]? = σ[j]?) → σ'.length = σ.length → Q σ' H
structure XG (X : Cx) (B : Bs) (tg : Expr) (js : List Nat) (m : MG) : Prop where
  mono : ∀ u e (P P' : En → Prop), (∀ e, P e → P' e) → m u e P → m u e P'
  pg : PG X tg (tMG X.K B js m)
structure XGs (X : Cx) (B : Bs) (tg : List Expr) (js : List Nat) (m : MGs) : Prop where
  mono : ∀ u e (P P' : En → Prop), (∀ e, P e → P' e) → m u e P → m u e P'
  pg : PGs X tg (tMGs X.K B js m)
section
variable {X : Cx} {B : Bs}
theorem pgW {tg : Expr} {t t' : TG} (h : PG X tg t) (w : ∀ v σ H Q, t' v σ H Q → t v σ H Q) : PG X tg t' := ⟨fun pins s σ H v u Q I r q => h.run pins s σ H v u Q I r (w v σ H Q q)⟩
theorem pgsW {tg : List Expr} {t t' : TGs} (h : PGs X tg t) (w : ∀ v σ H Q, t' v σ H Q → t v σ H Q) : PGs X tg t' := ⟨fun pins s σ H v u Q I r q => h.run pins s σ H v u Q I r (w v σ H Q q)⟩
theorem xg_name (i : Nat) {n : Str} {pos : Pos} (hN : X.N.Nodup) (hi : X.N[i]? = some n := by rfl) (hx : Loc X.env.scope n := by first | exact .inl rfl | exact .inr rfl) (hf : X.fn n = true ∨ X.env.scope.names.lookup n = some .local := by first | exact .inl rfl | exact .inr rfl) :
    XG X B (.Name n pos) [i] (fun u e Q => Q (e.set i (some (.val u)))) :=
  ⟨fun u e P P' h q => h _ q, pgW (pg_name hN hi hx hf) fun v σ H Q ⟨e, G, dd, u, r, d, q⟩ => q _ (r.store d i) (fun j hj => set_ne fun z => hj (by simp [z])) (List.length_set ..)⟩
theorem xgs_nil : XGs X B [] [] (fun ds e Q => ds = [] ∧ Q e) :=
  ⟨fun u e P P' h q => ⟨q.1, h _ q.2⟩, pgsW pgs_nil fun vs σ H Q ⟨e, G, dn, ds, r, d, q⟩ => by
    obtain ⟨q1, q2⟩ := q
    subst q1
    cases d
    exact ⟨rfl, q2 σ r (fun _ _ => rfl) rfl⟩⟩
def mgCons (m : MG) (mr : MGs) : MGs := fun ds e Q => match ds with
  | d :: r => m (.d d) e fun e' => mr r e' Q
  | [] => False
theorem xgs_cons {t : Expr} {ts : List Expr} {js js' : List Nat} {m : MG} {mr : MGs} (h1 : XG X B t js m) (h2 : XGs X B ts js' mr)
    (hs : (assignEach (t :: ts) X.env).map (·.2) = assign t X.env :: (assignEach ts X.env).map (·.2) := by rfl) : XGs X B (t :: ts) (js ++ js') (mgCons m mr) :=
  ⟨fun u e P P' hh q => by
    match u, q with
    | d :: r, q => exact h1.mono (.d d) e (fun e' => mr r e' P) _ (fun e q => h2.mono _ _ _ _ hh q) q, pgsW (pgs_cons h1.pg h2.pg hs) fun vs σ H Q ⟨e, G, dn, ds, r, d, q⟩ => by
    match ds, d, q with
    | dd :: ds', .cons (v := v) (vs := vs') a b, q =>
      refine ⟨v, vs', rfl, e, G, _, .d dd, r, a, h1.mono _ _ _ _ (fun e1 q σ1 r1 k1 l1 => ?_) q⟩
      exact ⟨e1, G, _, ds', r1, b, h2.mono _ _ _ _ (fun e2 q σ2 r2 k2 l2 => q σ2 r2 (fun j hj => (k2 j fun z => hj (List.mem_append_right _ z)).trans (k1 j fun z => hj (List.mem_append_left _ z))) (l2.trans l1)) q⟩⟩
def mgTup (n : Nat) (mr : MGs) : MG := fun u e Q => match u with
  | .d (.tuple ds) => ds.length = n ∧ mr ds e Q
  | _ => False
theorem xg_tup {ts : List Expr} {k n : Nat} {pos : Pos} {js : List Nat} {mr : MGs} (h2 : XGs X B ts js mr) (hn : (assignEach ts X.env).length = n := by rfl) (hst : (assignEach ts X.env).findIdx? (·.1) = none := by rfl) (hc : X.calm = true := by rfl) : XG X B (.Tuple ts k pos) js (mgTup n mr) :=
  ⟨fun u e P P' hh q => (by
    unfold mgTup at q ⊢
    split at q
    · exact ⟨q.1, h2.mono _ _ _ _ hh q.2⟩
    · cases q), pgW (pg_tup hc h2.pg hn hst) fun v σ H Q ⟨e, G, dd, u, r, d, q⟩ => by
    unfold mgTup at q
    split at q
    · cases d with
      | tup s t => exact ⟨_, _, rfl, .inl (.inl (r.sub _ _ s)), by rw [t.len]; exact q.1, e, G, _, _, r, t, q.2⟩
    · cases q⟩
/-- target = value, by any target -/
def mAsg (ma : M) (mg : MG) : MS := fun e k => ma e fun u => mg u e k.nx
theorem xs_asg {tg x : Expr} {js : List Nat} {ma : M} {mg : MG} {pos : Pos} (ha : XE X B x ma fa) (hg : XG X B tg js mg) (hs : swapsWithSole [tg] x pos.line X.env = pure false := by rfl) (hw : swappedStores [tg] x X.env = pure none := by rfl) (h1 : (assignEach [tg] X.env).map (·.2) = [assign tg X.env] := by rfl) :
    XS X B (.Assign [tg] x pos) (mAsg ma mg) fa :=
  ⟨fun e k k' h q => ha.mono e _ _ (fun u q => hg.mono u e _ _ h.nx q) q, psW (ps_asg ha.pe hg.pg hs hw h1) fun D σ H ⟨e, G, dd, r, q⟩ => ha.go r q fun u q v H' G' r' x' d' =>
    ⟨e, G', _, u, r', d', hg.mono _ _ _ _ (fun e' q σ' r2 _ _ => q σ' H' G' r2 x'.same) q⟩⟩
end

/-! ### what is walked -/
/-- the turn's item is d: as it stands, or a new tuple -/
def Yld (K : PySem.W.Frag) (G H : Hp) (x : V) (H' : Hp) (d : PyData) : Prop :=
  (H' = H ∧ Dat K G x d) ∨ ∃ T ws es, H T = none ∧ H' = upd H T (.tup ws) ∧ x = .ref T ∧ d = .tuple es ∧ Dats K G ws es
def WkD (K : PySem.W.Frag) (G : Hp) (J : It) (ds : List PyData) (C : Hp → Prop) : Prop :=
  ∃ Y, Walk J ds.length C Y ∧ ∀ i H x H' d, C H → Y i H x H' → ds[i]? = some d → Yld K G H x H' d
abbrev MI := En → (List PyData → Prop) → Prop
def tMI (K : PySem.W.Frag) (B : Bs) (m : MI) (f : Cst) : TI := fun σ H R => ∃ e G d, Rel K B (f.1 d) e σ G H ∧ m e fun ds => ∀ J H' G', Rel K B d e σ G' H' → Nxt B.pt G H G' H' → WkD K G' J ds (fun H2 => Ext B.pt H' H2) → R J H'
def tMF (K : PySem.W.Frag) (B : Bs) (m : MI) (f : Cst) : TI := fun σ H R => ∃ e G d, Rel K B (f.1 d) e σ G H ∧ m e fun ds => ∀ J H' G', Rel K B d e σ G' H' → Nxt B.pt G H G' H' → WkD K G' J ds (fun H2 => Same G' H2) → R J H'
structure XI (X : Cx) (B : Bs) (tg it : Expr) (m : MI) (f : Cst) : Prop where
  mono : ∀ e (P P' : List PyData → Prop), (∀ u, P u → P' u) → m e P → m e P'
  pi : PI X tg it (tMI X.K B m f)
structure XF (X : Cx) (B : Bs) (tg it : Expr) (m : MI) (f : Cst) : Prop where
  mono : ∀ e (P P' : List PyData → Prop), (∀ u, P u → P' u) → m e P → m e P'
  pi : PI X tg it (tMF X.K B m f)
theorem WkD.weak {K : PySem.W.Frag} {G : Hp} {J : It} {ds : List PyData} {C C' : Hp → Prop} (h : WkD K G J ds C) (hc : ∀ H, C' H → C H) : WkD K G J ds C' := by
  obtain ⟨Y, w, y⟩ := h
  exact ⟨Y, w.mono hc fun i H x H' _ _ y => y, fun i H x H' d c => y i H x H' d (hc H c)⟩
section
variable {X : Cx} {B : Bs}
theorem piW {tg it : Expr} {t t' : TI} (h : PI X tg it t) (w : ∀ σ H R, t' σ H R → t σ H R) : PI X tg it t' := ⟨fun pins s σ H R I q => h.run pins s σ H R I (w σ H R q)⟩
theorem XF.xi {tg it : Expr} {m : MI} (h : XF X B tg it m f) : XI X B tg it m f :=
  ⟨h.mono, piW h.pi fun σ H R ⟨e, G, dd, r, q⟩ => ⟨e, G, _, r, h.mono e _ _ (fun ds q J H' G' r' x' w => q J H' G' r' x' (w.weak fun H2 x2 a o g => by
    have np : a ∉ B.pt.pots := fun hp => by rw [r'.gpot a hp] at g; cases g
    exact x2 a o (r'.sub a o g) np)) q⟩⟩
def forL (mg : MG) (mb : MS) : List PyData → En → Kt → Prop
  | [], e, k => k.nx e
  | d :: ds, e, k => mg (.d d) e fun e1 => mb e1 { nx := fun e2 => forL mg mb ds e2 k, rt := k.rt, bk := k.nx, ct := fun e2 => forL mg mb ds e2 k }
theorem forL_mono {mg : MG} {mb : MS} (hg : ∀ u e (P P' : En → Prop), (∀ e, P e → P' e) → mg u e P → mg u e P') (hb : ∀ e k k', Kle k k' → mb e k → mb e k') {k k' : Kt} (h : Kle k k') :
    ∀ (ds : List PyData) (e : En), forL mg mb ds e k → forL mg mb ds e k'
  | [], e, q => h.nx e q
  | d :: ds, e, q => hg _ _ _ _ (fun e1 q => hb e1 { nx := fun e2 => forL mg mb ds e2 k, rt := k.rt, bk := k.nx, ct := fun e2 => forL mg mb ds e2 k } { nx := fun e2 => forL mg mb ds e2 k', rt := k'.rt, bk := k'.nx, ct := fun e2 => forL mg mb ds e2 k' } ⟨fun e2 q => forL_mono hg hb h ds e2 q, h.rt, h.nx, fun e2 q => forL_mono hg hb h ds e2 q⟩ q) q
def mFor (mi : MI) (mg : MG) (mb : MS) : MS := fun e k => mi e fun ds => forL mg mb ds e k
/-- a loop whose turns draw: it has at most a million of them -/
def mForD (mi : MI) (mg : MG) (mb : MS) : MS := fun e k => mi e fun ds => ds.length ≤ 1000000 ∧ forL mg mb ds e k
/-- the loop, its turns of cost c at most, N for all -/
theorem xs_forN (c N : Nat) {P : List PyData → Prop} {tg it : Expr} {body : List Stmt} {js : List Nat} {mi : MI} {mg : MG} {mb : MS} {pos : Pos} (hfb : ∀ d, fb.1 d ≤ d + c) (hN : ∀ ds, P ds → ds.length * c ≤ N) (hi : XF X B tg it mi fi) (hg : XG X B tg js mg) (hb : XSs X B body mb fb)
    (hc : X.calm = true := by rfl) (hp : PassesOwn (model X.prog X.w) X.A X.env X.xe := by exact PassesOwn.never) (hs : ∀ x, foldedSetIterable it X.env x = pure x := by intro _; rfl) : XS X B (.For tg it body [] pos) (fun e k => mi e fun ds => P ds ∧ forL mg mb ds e k) (sq fi (cn N)) :=
  ⟨fun e k k' h q => hi.mono e _ _ (fun ds q => ⟨q.1, forL_mono hg.mono hb.mono h ds e q.2⟩) q, psW (ps_for hp hc hi.pi hg.pg hb.ps hs) fun D σ H ⟨e, G, dd, r, q⟩ => ⟨e, G, _, r, hi.mono e _ _ (fun ds q0 J H1 G1 r1 x1 w => by
    obtain ⟨pds, q⟩ := q0
    have len := hN ds pds
    obtain ⟨Y, wk, yl⟩ := w
    refine for_it wk (fun i σ' H' => ∃ e' G2, Rel X.K B (dd + (ds.length - i) * c) e' σ' G2 H' ∧ Same G1 G2 ∧ forL mg mb (ds.drop i) e' (kOf X.K B G dd D)) ⟨e, G1, r1.le (Nat.add_le_add_left (by rw [Nat.sub_zero]; exact len) _), Same.refl _, q⟩ (fun i σ' H' _ ⟨e', G2, r2, s2, _⟩ => fun a o g => r2.sub a o (s2 a o g))
      (fun i v σ' H' H2 hi ⟨e', G2, r2, s2, q2⟩ y => ?_) fun σ' H' ⟨e', G2, r2, s2, q2⟩ => ?_
    · have hd : ds.drop i = ds[i] :: ds.drop (i + 1) := List.drop_eq_getElem_cons hi
      rw [hd] at q2
      have cc : Same G1 H' := fun a o g => r2.sub a o (s2 a o g)
      have bud : fb.1 (dd + (ds.length - (i + 1)) * c) ≤ dd + (ds.length - i) * c := by
        have h1 := hfb (dd + (ds.length - (i + 1)) * c)
        have h2 : ds.length - i = ds.length - (i + 1) + 1 := by omega
        rw [h2, Nat.add_mul, Nat.one_mul]
        omega
      have low : dd ≤ dd + (ds.length - (i + 1)) * c := Nat.le_add_right _ _
      have fin : ∀ G3, Rel X.K B (dd + (ds.length - i) * c) e' σ' G3 H2 → Same G2 G3 → UD X.K B.pt G3 v (.d ds[i]) → tMG X.K B js mg v σ' H2 fun σ2 H3 => tMS X.K B mb fb { D with nx := fun σ' H' => ∃ e' G2, Rel X.K B (dd + (ds.length - (i + 1)) * c) e' σ' G2 H' ∧ Same G1 G2 ∧ forL mg mb (ds.drop (i + 1)) e' (kOf X.K B G dd D), ct := fun σ' H' => ∃ e' G2, Rel X.K B (dd + (ds.length - (i + 1)) * c) e' σ' G2 H' ∧ Same G1 G2 ∧ forL mg mb (ds.drop (i + 1)) e' (kOf X.K B G dd D), bk := D.nx } σ2 H3 := fun G3 r3 s3 d3 =>
        ⟨e', G3, _, .d ds[i], r3, d3, hg.mono _ _ _ _ (fun e1 q σ2 r4 _ _ => hb.go (k := { nx := fun e2 => forL mg mb (ds.drop (i + 1)) e2 (kOf X.K B G dd D), rt := (kOf X.K B G dd D).rt, bk := (kOf X.K B G dd D).nx, ct := fun e2 => forL mg mb (ds.drop (i + 1)) e2 (kOf X.K B G dd D) }) (r4.le bud) q ⟨fun e2 q σ5 H5 G5 r5 s5 => ⟨e2, G5, r5, s2.trans (s3.trans s5), q⟩, fun u q v e5 σ5 H5 G5 r5 s5 d5 => q v e5 σ5 H5 G5 (r5.le low) (x1.same.trans (s2.trans (s3.trans s5))) d5,
          fun e2 q σ5 H5 G5 r5 s5 => q σ5 H5 G5 (r5.le low) (x1.same.trans (s2.trans (s3.trans s5))), fun e2 q σ5 H5 G5 r5 s5 => ⟨e2, G5, r5, s2.trans (s3.trans s5), q⟩⟩) q2⟩
      rcases yl i H' v H2 ds[i] cc y (List.getElem?_eq_getElem hi) with ⟨h1, h2⟩ | ⟨T, ws, es, h1, h2, h3, h4, h5⟩
      · subst h1
        exact fin G2 r2 (Same.refl _) (h2.mono s2)
      · subst h2
        have sg := same_laid (r2.gold h1) (HO.tup ws)
        refine fin _ (r2.new h1 _) sg ?_
        rw [h3]
        show Dat _ _ _ ds[i]
        rw [h4]
        exact .tup upd_same ((h5.mono s2).mono sg)
    · rw [List.drop_length] at q2
      exact q2 σ' H' G2 (r2.le (Nat.le_add_right _ _)) (x1.same.trans s2)) q⟩⟩
theorem XS.eqM {st : Stmt} {m m' : MS} (h : XS X B st m f) (e1 : ∀ e k, m' e k ↔ m e k) (e2 : g.1 = f.1) : XS X B st m' g :=
  ⟨fun e k k' l q => (e1 e k').mpr (h.mono e k k' l ((e1 e k).mp q)), psW h.ps fun D σ H ⟨e, G, dd, r, q⟩ => ⟨e, G, dd, by rw [← e2]; exact r, (e1 _ _).mp q⟩⟩
theorem xs_for {tg it : Expr} {body : List Stmt} {js : List Nat} {mi : MI} {mg : MG} {mb : MS} {pos : Pos} (hi : XF X B tg it mi fi) (hg : XG X B tg js mg) (hb : XSs X B body mb fb) (hz : ∀ d, fb.1 d ≤ d := by intro d; dsimp only; omega)
    (hc : X.calm = true := by rfl) (hp : PassesOwn (model X.prog X.w) X.A X.env X.xe := by exact PassesOwn.never) (hs : ∀ x, foldedSetIterable it X.env x = pure x := by intro _; rfl) : XS X B (.For tg it body [] pos) (mFor mi mg mb) fi :=
  (xs_forN 0 0 (P := fun _ => True) hz (fun _ _ => Nat.le_refl _) hi hg hb hc hp hs).eqM (fun e k => ⟨fun q => hi.mono _ _ _ (fun _ q => ⟨trivial, q⟩) q, fun q => hi.mono _ _ _ (fun _ q => q.2) q⟩) rfl
theorem xs_forD {tg it : Expr} {body : List Stmt} {js : List Nat} {mi : MI} {mg : MG} {mb : MS} {pos : Pos} (hi : XF X B tg it mi fi) (hg : XG X B tg js mg) (hb : XSs X B body mb fb) (hz : ∀ d, fb.1 d ≤ d + fb.1 0 := by intro d; dsimp only; omega)
    (hc : X.calm = true := by rfl) (hp : PassesOwn (model X.prog X.w) X.A X.env X.xe := by exact PassesOwn.never) (hs : ∀ x, foldedSetIterable it X.env x = pure x := by intro _; rfl) : XS X B (.For tg it body [] pos) (mForD mi mg mb) (sq fi (cn (1000000 * fb.1 0))) :=
  xs_forN (fb.1 0) (1000000 * fb.1 0) (P := fun ds => ds.length ≤ 1000000) hz (fun _ h => Nat.mul_le_mul_right _ h) hi hg hb hc hp hs
end

/-! ### defs -/
/-- what a def does, by data: its arguments, what is wanted of its answer -/
abbrev Ph := List U → (U → Prop) → Prop
/-- c: how many draws it makes at most -/
def spF (K : PySem.W.Frag) (Φ : Ph) (c : Nat) : List V → Hp → VK → Prop := fun vs H Q => ∃ (pt : Pt) (G : Hp) (us : List U) (d : Nat), Same G H ∧ (∀ a ∈ pt.pots, G a = none) ∧ pt.J (d + c) H ∧ UDs K pt G vs us ∧
  Φ us fun u => ∀ v H' G', Same G' H' → Same G G' → (∀ a ∈ pt.pots, G' a = none) → pt.J d H' → Ext pt H H' → (∀ a o, G' a = some o → G a = some o ∨ H a = none ∨ IsTupO o) → UD K pt G' v u → Q v H'
/-- the def at f keeps the promise, called where nothing is being shown (repr) around -/
structure FnG (P : Program) (w : World) (K : PySem.W.Frag) (mg : Str → Option Value) (base : Heap) (k : Nat) (f : Addr) (fd : FuncData) (ps : List Str) (sp : List V → Hp → VK → Prop) : Prop where
  len : ∀ vs H Q, sp vs H Q → vs.length = ps.length
  run : ∀ (A : Around) (outer : List Env) (s : Shared) (H : Hp) (args : Args) (us : List Value) (vs : List V) (Q : VK), Room k A → A.guards = some [] → Env0 P w K mg base A outer s H →
    BindsTo s fd args (ps.zip us) → Vals vs us → sp vs H Q → codeAny (model P w) A (.call (.ref f) args) (CR CX0 outer P w H s Q E0) s
theorem FnG.up {P : Program} {w : World} {K : PySem.W.Frag} {mg : Str → Option Value} {base : Heap} {j k : Nat} {f : Addr} {fd : FuncData} {ps : List Str} {sp : List V → Hp → VK → Prop} (F : FnG P w K mg base j f fd ps sp) (h : j ≤ k) : FnG P w K mg base k f fd ps sp :=
  ⟨F.len, fun A outer s H args us vs Q hr hg => F.run A outer s H args us vs Q (hr.mono h) hg⟩
/-- a def that never is asked about what is shown around -/
theorem fng_of {P : Program} {w : World} {K : PySem.W.Frag} {mg : Str → Option Value} {base : Heap} {k : Nat} {f : Addr} {fd : FuncData} {ps : List Str} {sp : Sp} {sp' : List V → Hp → VK → Prop} (F : FnOk P w K mg base CX0 k f fd ps sp)
    (h : ∀ vs H Q, sp' vs H Q → sp vs H Q E0) : FnG P w K mg base k f fd ps sp' :=
  ⟨fun vs H Q q => F.len vs H Q E0 (h vs H Q q), fun A outer s H args us vs Q hr _ e0 hb hv q => F.run A outer s H args us vs Q E0 hr e0 hb hv (h vs H Q q)⟩
section
variable {P : Program} {w : World} {K : PySem.W.Frag} {mg : Str → Option Value} {base : Heap}
/-- the rule for a def, by its body (with what is shown around) -/
theorem okG {x qual : Str} {st : Stmt} {f : Addr} {fd : FuncData} {N ps : List Str} {k : Nat} {sp : List V → Hp → VK → Prop} (F : Fun K x qual st f fd) (S : FnScope N ps (defScope st)) (len : ∀ vs H Q, sp vs H Q → vs.length = ps.length)
    (hbody : ∀ (cdv : Value) (A : Around) (outer : List Env) (s : Shared) (H : Hp) (vs : List V) (Q : VK), Room k (A.deeper (envOfC qual (defScope st) s.heap.objs.size f cdv)) → (A.deeper (envOfC qual (defScope st) s.heap.objs.size f cdv)).guards = some [] → sp vs H Q →
      ∃ t, PSs (cxOf CX0 P w K mg base N qual (defScope st) f cdv A outer s H E0).nox (defBody st) t ∧ t { nx := fun _ H' => Q .non H', rt := Q } (L2.start N vs) H) : FnG P w K mg base (k + 1) f fd ps sp := by
  obtain ⟨oc, od, kV, doc, pm, an, cdv, ct, osl, rfl, lk, hcd⟩ := F.ex
  refine ⟨len, fun A outer s H args us vs Q room grd e0 bnd rv want => ?_⟩
  have vlen := len _ _ _ want
  have inK : K.In s.heap := e0.mod.kin.keeps fun a o q => (e0.bs a o q).1
  have nolim : s.heap.NoLimit := e0.mod.nolimit.keeps fun a o q => (e0.bs a o q).1
  have kinds : ∀ p ∈ ps.zip us, (defScope st).names.lookup p.1 = some .local ∨ ((defScope st).names.lookup p.1 = some .cell ∧ ((cellsFrom (s.heap.objs.size + 1) (defScope st).names []).lookup p.1).isSome = true) := by
    rintro ⟨n, v⟩ hp
    rcases S.par n (List.of_mem_zip hp).1 with z | z
    · exact .inl z
    · exact .inr ⟨z, PySem.W.cellsFrom_some _ _ _ (.inl z)⟩
  refine codeAny_call_function room.depth (inK _ _ lk) rfl S.co S.gen rfl (PySem.W.codeRec_of inK hcd) (bnd _ _ _ _ ?_)
  refine wpAny_newFunctionEnv_cells S.kind kinds fun en hen s1 ic => ?_
  subst hen
  refine ⟨nolim.keeps ic.toInCall.keep, codeAny_func ?_⟩
  obtain ⟨t, ht, hq⟩ := hbody cdv A outer s H vs Q (room.deeper _) grd want
  have I0 := inv_start (CX := CX0) (E := E0) S room.hd e0 vlen rv ic
  refine wpAny_mono (ht.nox.run [] s1 (L2.start N vs) H _ I0 hq) (fun fl s' hs => ?_) fun _ _ hs => hs
  cases fl with
  | ret u =>
    obtain ⟨v, σ', H', J, rr, q⟩ := hs
    exact ⟨v, H', J.os, J.bare, J.base, J.hok, rr, q⟩
  | next =>
    obtain ⟨σ', H', J, q⟩ := hs
    exact ⟨.non, H', J.os, J.bare, J.base, J.hok, rfl, q⟩
  | brk => obtain ⟨_, _, _, q⟩ := hs; exact q.elim
  | cont => obtain ⟨_, _, _, q⟩ := hs; exact q.elim
def entry (N : List Str) (us : List U) : En := us.map (fun u => some (.val u)) ++ List.replicate (N.length - us.length) none
theorem entry_get {N : List Str} {us : List U} {i : Nat} {s : Sl} (h : (entry N us)[i]? = some (some s)) : ∃ u, us[i]? = some u ∧ s = .val u := by
  unfold entry at h
  by_cases hi : i < us.length
  · rw [List.getElem?_append_left (by rw [List.length_map]; exact hi), List.getElem?_map, List.getElem?_eq_getElem hi] at h
    cases h
    exact ⟨us[i], List.getElem?_eq_getElem hi, rfl⟩
  · rw [List.getElem?_append_right (by rw [List.length_map]; omega), List.getElem?_replicate] at h
    split at h <;> cases h
theorem rel_entry {pt : Pt} {G H : Hp} {N : List Str} {us : List U} {vs : List V} (sub : Same G H) (gp : ∀ a ∈ pt.pots, G a = none) {bd : Nat} (J : pt.J bd H) (d : UDs K pt G vs us) : Rel K ⟨pt, H, G⟩ bd (entry N us) (L2.start N vs) G H := by
  refine ⟨sub, fun a o q => q, fun a o q => .inl q, gp, J, fun a o q _ => q, ?_, fun i u q => ?_, fun i ds q hz => ?_, fun i j ds es p q _ hz _ _ _ => ?_⟩
  · unfold entry L2.start
    simp [d.len]
  · obtain ⟨u', h1, h2⟩ := entry_get q
    cases h2
    obtain ⟨v, h3, h4⟩ := d.get h1
    refine ⟨v, ?_, h4⟩
    have hi : i < vs.length := by
      rcases Nat.lt_or_ge i vs.length with z | z
      · exact z
      · rw [List.getElem?_eq_none z] at h3; cases h3
    unfold L2.start
    rw [List.getElem?_append_left (by rw [List.length_map]; exact hi), List.getElem?_map, h3]
    rfl
  · obtain ⟨u', h1, h2⟩ := entry_get q
    cases h2
    cases hz
  · obtain ⟨u', h1, h2⟩ := entry_get q
    cases h2
    cases hz
/-- THE RULE: a def by its body's meaning m -/
theorem okP {x qual : Str} {st : Stmt} {f : Addr} {fd : FuncData} {N ps : List Str} {k c : Nat} {Φ : Ph} {m : MS} {fb : Cst} (F : Fun K x qual st f fd) (S : FnScope N ps (defScope st)) (len : ∀ us Q, Φ us Q → us.length = ps.length)
    (hbody : ∀ (cdv : Value) (A : Around) (outer : List Env) (s : Shared) (H : Hp) (B : Bs), Room k (A.deeper (envOfC qual (defScope st) s.heap.objs.size f cdv)) → (A.deeper (envOfC qual (defScope st) s.heap.objs.size f cdv)).guards = some [] →
      XSs (cxOf CX0 P w K mg base N qual (defScope st) f cdv A outer s H E0).nox B (defBody st) m fb) (hc : ∀ d, fb.1 d ≤ d + c)
    (hm : ∀ us Q, Φ us Q → m (entry N us) { nx := fun _ => Q (.d .none), rt := Q }) : FnG P w K mg base (k + 1) f fd ps (spF K Φ c) := by
  refine okG F S (fun vs H Q ⟨pt, G, us, _, _, _, _, d, q⟩ => by rw [d.len]; exact len _ _ q) fun cdv A outer s H vs Q hr hg ⟨pt, G, us, b, sub, gp, J, d, q⟩ => ?_
  have xb := hbody cdv A outer s H ⟨pt, H, G⟩ hr hg
  refine ⟨_, xb.ps, entry N us, G, b, rel_entry sub gp (pt.le J (hc b)) d, xb.mono _ _ _ ⟨fun e q σ' H' G' r s => ?_, fun u q v e' σ' H' G' r s d => ?_, fun e q => False.elim q, fun e q => False.elim q⟩ (hm us _ q)⟩
  · exact q .non H' G' r.sub s r.gpot r.J r.frame r.grow .non
  · exact q v H' G' r.sub s r.gpot r.J r.frame r.grow d
end

/-! ### calls -/
section
variable {X : Cx} {B : Bs} {k : Nat} {f : Addr} {fd : FuncData} {ps : List Str} {Φ : Ph} {ma mk : MA} {x : Str} {a : Expr} {es : List Expr} {p pos : Pos}
/-- the state behind a call -/
theorem Rel.after {K : PySem.W.Frag} {e : En} {σ : L2.St} {G H G' H' : Hp} {bd bd' : Nat} (r : Rel K B bd e σ G H) (sub : Same G' H') (sg : Same G G') (gp : ∀ a ∈ B.pt.pots, G' a = none) (J : B.pt.J bd' H') (x : Ext B.pt H H') (grow : ∀ a o, G' a = some o → G a = some o ∨ H a = none ∨ IsTupO o) : Rel K B bd' e σ G' H' := by
  refine ⟨sub, r.sub0.trans sg, fun a o q => ?_, gp, J, r.frame.trans x, r.len, fun i u q => ?_, fun i ds q hz => ?_, r.sep⟩
  · rcases grow a o q with z | z | z
    · exact r.grow a o z
    · exact .inr (.inl (r.old z))
    · exact .inr (.inr z)
  · obtain ⟨v, h1, h2⟩ := r.val i u q
    exact ⟨v, h1, h2.mono sg⟩
  · obtain ⟨p, vs, h1, h2, h3, h4, h5, h6⟩ := r.own i ds q hz
    refine ⟨p, vs, h1, x p _ h2 h6, h3.mono sg, ?_, h5, h6⟩
    cases z : G' p with
    | none => rfl
    | some o =>
      rcases grow p o z with t | t | ⟨xs, t⟩
      · rw [h4] at t; cases t
      · rw [h2] at t; cases t
      · have := (x p _ h2 h6).symm.trans (sub p o z)
        rw [t] at this; cases this
        rcases h3 with ⟨_, _, _, e2, _⟩ | ⟨_, _, _, e2, _⟩ <;> cases e2
def PhM (Φ : Ph) : Prop := ∀ us (Q Q' : U → Prop), (∀ u, Q u → Q' u) → Φ us Q → Φ us Q'
/-- a def of the text that may be called by its name -/
structure Cal (P : Program) (w : World) (K : PySem.W.Frag) (mg : Str → Option Value) (base : Heap) (k : Nat) (x : Str) (st : Stmt) (ps : List Str) (Φ : Ph) (c : Nat) : Prop where
  mono : PhM Φ
  ex : ∃ q f fd, Fun K q q st f fd ∧ mg x = some (.ref f) ∧ FnG P w K mg base k f fd ps (spF K Φ c)
  bd : ∀ (q : Str) (kV doc pm : Value) (an : Option Addr) (cdv ct : Value) (us : List Value), us.length = ps.length → bindArgs (PySem.W.fnOf q q (defArgs st) (defBody st) (defScope st) .none kV doc pm an cdv ct) ⟨us, []⟩ = pure (ps.zip us)
theorem Cal.up {P : Program} {w : World} {K : PySem.W.Frag} {mg : Str → Option Value} {base : Heap} {j k : Nat} {x : Str} {st : Stmt} {ps : List Str} {Φ : Ph} {c : Nat} (C : Cal P w K mg base j x st ps Φ c) (h : j ≤ k) : Cal P w K mg base k x st ps Φ c :=
  ⟨C.mono, let ⟨q, f, fd, h1, h2, h3⟩ := C.ex; ⟨q, f, fd, h1, h2, h3.up h⟩, C.bd⟩
variable {st : Stmt}
theorem call_conv (hΦ : PhM Φ) {e : En} {σ : L2.St} {G H : Hp} {us : List U} {vs : List V} {Q : U → Prop} {R : VK} {bd c : Nat} (r : Rel X.K B (bd + c) e σ G H) (d : UDs X.K B.pt G vs us) (h : Φ us Q)
    (hq : ∀ u, Q u → ∀ v H' G', Rel X.K B bd e σ G' H' → Nxt B.pt G H G' H' → UD X.K B.pt G' v u → R v H') : spF X.K Φ c vs H R :=
  ⟨B.pt, G, us, bd, r.sub, r.gpot, r.J, d, hΦ us _ _ (fun u q v H' G' sub sg gp J x grow d => hq u q v H' G' (r.after sub sg gp J x grow) ⟨sg, x, fun a o q => (grow a o q).elim .inl fun z => z.elim (fun z => .inr (.inl z)) fun z => .inr (.inr (.inr z))⟩ d) h⟩
theorem runP {pins : List (Addr × Obj)} {σ : L2.St} {H : Hp} {s : Shared} {Q : VK} {us : List Value} {vs : List V} {sp : List V → Hp → VK → Prop} (F : FnG X.prog X.w X.K X.mg X.base k f fd ps sp) (hr : Room k X.A) (hg : X.A.guards = some []) (hb : us.length = ps.length → BindsTo s fd ⟨us, []⟩ (ps.zip us))
    (I : Inv X pins σ H s) (r : Vals vs us) (h : sp vs H Q) : wpAny (model X.prog X.w) X.A (call (.ref f) us) (EP X pins σ Q) X.xe s := by
  have hl : us.length = ps.length := by rw [← r.length]; exact F.len _ _ _ h
  refine wpAny_call (codeAny_mono (F.run X.A X.stack s H ⟨us, []⟩ us vs Q hr hg I.env0 (hb hl) r h) fun res s' hq => ?_)
  match res, hq with
  | .ok (.ret u), hq => exact I.after hq
theorem runK {pins : List (Addr × Obj)} {σ : L2.St} {H : Hp} {s : Shared} {Q : VK} {us : List Value} {vs : List V} {kw : List (Str × Value)} {sp : List V → Hp → VK → Prop} (F : FnG X.prog X.w X.K X.mg X.base k f fd ps sp) (hr : Room k X.A) (hg : X.A.guards = some []) {po : List Value} (hb : us.length = ps.length → BindsTo s fd ⟨po, kw⟩ (ps.zip us))
    (I : Inv X pins σ H s) (r : Vals vs us) (h : sp vs H Q) : wpAny (model X.prog X.w) X.A (call (.ref f) po kw) (EP X pins σ Q) X.xe s := by
  have hl : us.length = ps.length := by rw [← r.length]; exact F.len _ _ _ h
  refine wpAny_call (codeAny_mono (F.run X.A X.stack s H ⟨po, kw⟩ us vs Q hr hg I.env0 (hb hl) r h) fun res s' hq => ?_)
  match res, hq with
  | .ok (.ret u), hq => exact I.after hq
theorem xe_call {c : Nat} {fa : Cst} (C : Cal X.prog X.w X.K X.mg X.base k x st ps Φ c) (hr : Room k X.A) (hg : X.A.guards = some []) (ha : XA X B (a :: es) ma fa) (gl : Gl X x := by rfl) (hdb : (x == ("__debug__" : Str)) = false := by decide)
    (he : starEach (a :: es) X.env = (false, eval a X.env) :: starEach es X.env := by rfl) (hpl : (backTo pos (starEach es X.env)).any (·.1) = false := by rfl) : XE X B (.Call (.Name x p) (a :: es) [] pos) (fun e Q => ma e fun us => Φ us Q) (sq fa (cn c)) := by
  obtain ⟨q0, f, fd, F0, hm, F⟩ := C.ex
  refine ⟨fun e P P' h q => ha.mono e _ _ (fun us q => C.mono us _ _ h q) q, ⟨fun pins s σ H Q I ⟨e, G, dd, r, q⟩ => ?_⟩⟩
  have q2 : tMA X.K B ma fa σ H fun vs H1 => spF X.K Φ c vs H1 Q := ha.go r q fun us q vs H1 G1 r1 x1 d1 => call_conv C.mono r1 d1 q fun u q v H' G' r2 x2 d2 => q v H' G' r2 (x1.trans x2) d2
  refine wpAny_Call_Name_kw (ld_glob I gl hm ?_ hdb)
  refine PySem.W.callWith_K (h₀ := X.base) I.ok.mod.kin F0.kp (thn (ha.pa.run pos pins s σ H _ I q2) fun us s1 ⟨vs, H1, I1, rv, q3⟩ => ⟨I1.kIn, ?_⟩) he hpl
  refine runP F hr hg (fun hl => ?_) I1 rv q3
  obtain ⟨oc, od, kV, doc, pm, an, cdv, ct, osl, rfl, _, _⟩ := F0.ex
  exact .of_eq (C.bd q0 kV doc pm an cdv ct us hl)
theorem xe_call0 {c : Nat} (C : Cal X.prog X.w X.K X.mg X.base k x st ps Φ c) (hr : Room k X.A) (hg : X.A.guards = some []) (gl : Gl X x := by rfl) (hdb : (x == ("__debug__" : Str)) = false := by decide) :
    XE X B (.Call (.Name x p) [] [] pos) (fun e Q => Φ [] Q) (cn c) := by
  obtain ⟨q0, f, fd, F0, hm, F⟩ := C.ex
  refine ⟨fun e P P' h q => C.mono _ _ _ h q, ⟨fun pins s σ H Q I ⟨e, G, dd, r, q⟩ => ?_⟩⟩
  have q3 := call_conv (R := Q) C.mono r .nil q fun u q v H' G' r2 x2 d2 => q v H' G' r2 x2 d2
  refine wpAny_Call_Name_kw (ld_glob I gl hm ?_ hdb)
  refine PySem.W.callWith_K0 I.kIn F0.kp (runP F hr hg (fun hl => ?_) I .nil q3)
  obtain ⟨oc, od, kV, doc, pm, an, cdv, ct, osl, rfl, _, _⟩ := F0.ex
  exact .of_eq (C.bd q0 kV doc pm an cdv ct [] hl)
/-- the items at these places -/
def permL {α : Type} (is : List Nat) (xs : List α) : List α := is.filterMap (xs[·]?)
theorem perm_uds {K : PySem.W.Frag} {pt : Pt} {G : Hp} {vs : List V} {us : List U} (h : UDs K pt G vs us) : ∀ (is : List Nat), UDs K pt G (permL is vs) (permL is us)
  | [] => .nil
  | i :: is => by
    have ih := perm_uds h is
    unfold permL at ih ⊢
    rw [List.filterMap_cons, List.filterMap_cons]
    cases q : us[i]? with
    | none =>
      have q2 : vs[i]? = none := List.getElem?_eq_none (by rw [h.len]; exact List.getElem?_eq_none_iff.mp q)
      rw [q2]
      exact ih
    | some u =>
      obtain ⟨v, h1, h2⟩ := h.get q
      rw [h1]
      exact .cons h2 ih
theorem perm_vals {vs : List V} {us : List Value} (h : Vals vs us) : ∀ (is : List Nat), Vals (permL is vs) (permL is us)
  | [] => .nil
  | i :: is => by
    have ih := perm_vals h is
    unfold permL at ih ⊢
    rw [List.filterMap_cons, List.filterMap_cons]
    cases q : vs[i]? with
    | none =>
      have q2 : us[i]? = none := h.none_of q
      rw [q2]
      exact ih
    | some u =>
      obtain ⟨v, h1, h2⟩ := h.get q
      rw [h1]
      exact .cons h2 ih
/-- keywords' values, in their written order -/
structure XK (X : Cx) (B : Bs) (kws : List Keyword) (m : MA) (f : Cst) : Prop where
  mono : ∀ e (P P' : List U → Prop), (∀ u, P u → P' u) → m e P → m e P'
  pk : PK X kws (tMA X.K B m f)
  cnt : ∀ e (P : List U → Prop), m e P → m e fun us => us.length = kws.length ∧ P us
theorem pkW {kws : List Keyword} {t t' : TA} (h : PK X kws t) (w : ∀ σ H Q, t' σ H Q → t σ H Q) : PK X kws t' := ⟨fun pos pins s σ H Q I q => h.run pos pins s σ H Q I (w σ H Q q)⟩
theorem xk_nil : XK X B [] (fun _ Q => Q []) cz := ⟨fun e P P' h q => h _ q, pkW pk_nil fun σ H Q ⟨e, G, dd, r, q⟩ => q [] H G r .refl .nil, fun e P q => ⟨rfl, q⟩⟩
theorem xk_cons {m : M} {mr : MA} {nm : Option Str} {kpos : Pos} {kws : List Keyword} (ha : XE X B a m fa) (hr : XK X B kws mr fr) : XK X B (⟨nm, a, kpos⟩ :: kws) (mCons m mr) (sq fa fr) :=
  ⟨fun e P P' h q => ha.mono e _ _ (fun u hu => hr.mono e _ _ (fun us q => h _ q) hu) q, pkW (pk_cons ha.pe hr.pk) fun σ H Q ⟨e, G, dd, r, h⟩ =>
    ha.go r h fun u hu v1 H1 G1 r1 x1 d1 => ⟨e, G1, _, r1, hr.mono e _ _ (fun us q vs H2 G2 r2 x2 d2 => q (v1 :: vs) H2 G2 r2 (x1.trans x2) (.cons (d1.mono x2.same) d2)) hu⟩, fun e P q => ha.mono e _ _ (fun u hu => hr.mono e _ _ (fun us q => ⟨by rw [List.length_cons, List.length_cons, q.1], q.2⟩) (hr.cnt e _ hu)) q⟩
/-- f(k = v, ..): is tells where each parameter's value stands among the written ones -/
theorem xe_callK (is : List Nat) {ks : List Str} {kws : List Keyword} {c : Nat} {fa : Cst} (C : Cal X.prog X.w X.K X.mg X.base k x st ps Φ c) (hr : Room k X.A) (hg : X.A.guards = some []) (ha : XK X B kws mk fa)
    (hb : ∀ (q : Str) (kV doc pm : Value) (an : Option Addr) (cdv ct : Value) (us : List Value), (permL is us).length = ps.length → us.length = ks.length → bindArgs (PySem.W.fnOf q q (defArgs st) (defBody st) (defScope st) .none kV doc pm an cdv ct) ⟨[], ks.zip us⟩ = pure (ps.zip (permL is us)))
    (hkl : kws.length = ks.length := by rfl) (hks : (backToKw pos (keywordEach kws X.env)).filterMap (·.1) = ks := by rfl) (hall : (backToKw pos (keywordEach kws X.env)).all (·.1.isSome) = true := by rfl)
    (hno : (backToKw pos (keywordEach kws X.env)).any (·.1.isNone) = false := by rfl) (gl : Gl X x := by rfl) (hdb : (x == ("__debug__" : Str)) = false := by decide) :
    XE X B (.Call (.Name x p) [] kws pos) (fun e Q => mk e fun us => Φ (permL is us) Q) (sq fa (cn c)) := by
  obtain ⟨q0, f, fd, F0, hm, F⟩ := C.ex
  refine ⟨fun e P P' h q => ha.mono e _ _ (fun us q => C.mono _ _ _ h q) q, ⟨fun pins s σ H Q I ⟨e, G, dd, r, q⟩ => ?_⟩⟩
  have q2 : tMA X.K B mk fa σ H fun vs H1 => vs.length = ks.length ∧ spF X.K Φ c (permL is vs) H1 Q := ⟨e, G, _, r, ha.mono e _ _ (fun us q vs H1 G1 r1 x1 d1 => ⟨by rw [d1.len, q.1]; exact hkl, call_conv C.mono r1 (perm_uds d1 is) q.2 fun u q v H' G' r2 x2 d2 => q v H' G' r2 (x1.trans x2) d2⟩) (ha.cnt _ _ q)⟩
  refine wpAny_Call_Name_kw (ld_glob I gl hm ?_ hdb)
  refine PySem.W.callWith_KW0 (h₀ := X.base) I.ok.mod.kin F0.kp hall (thn (ha.pk.run pos pins s σ H _ I q2) fun us s1 ⟨vs, H1, I1, rv, hl, q3⟩ => ?_) hno
  refine ⟨I1.kIn, ?_⟩
  rw [hks]
  refine runK F hr hg (fun hl2 => ?_) I1 (perm_vals rv is) q3
  obtain ⟨oc, od, kV, doc, pm, an, cdv, ct, osl, rfl, _, _⟩ := F0.ex
  exact .of_eq (hb q0 kV doc pm an cdv ct us hl2 (by rw [← rv.length]; exact hl))
end
end Fd

set_option Elab.async false
set_option linter.all false
set_option maxRecDepth 100000
set_option maxHeartbeats 4000000
/-! Fd, part D: comprehensions; what is walked. -/
namespace Fd
open PySem PySem.Spec PyProof.Rows L2

section
variable {X : Cx} {B : Bs} {K : PySem.W.Frag}
/-- the slots at vs told no more -/
def wipeE (e : En) : List Nat → En
  | [] => e
  | v :: vs => (wipeE e vs).set v none
theorem Rel.forget {bd : Nat} {e : En} {σ : L2.St} {G H : Hp} (r : Rel K B bd e σ G H) (i : Nat) : Rel K B bd (e.set i none) (σ.set i none) G H := by
  refine r.renew (by rw [List.length_set, List.length_set]; exact r.len) (fun j w q => ?_) (fun j ds q hz => ?_) (fun j l ds es p q1 q2 z1 z2 q3 q4 => ?_)
  · rcases set_get q with ⟨_, h2, _⟩ | ⟨h1, h2⟩
    · cases h2
    · rw [set_ne h1]; exact r.val j w h2
  · rcases set_get q with ⟨_, h2, _⟩ | ⟨h1, h2⟩
    · cases h2
    · rw [set_ne h1]; exact r.own j ds h2 hz
  · rcases set_get q1 with ⟨_, h2, _⟩ | ⟨h1, h2⟩
    · cases h2
    · rcases set_get q2 with ⟨_, h4, _⟩ | ⟨h3, h4⟩
      · cases h4
      · rw [set_ne h1] at q3
        rw [set_ne h3] at q4
        exact r.sep j l ds es p h2 h4 z1 z2 q3 q4
theorem Rel.wipe {bd : Nat} {e : En} {σ : L2.St} {G H : Hp} (r : Rel K B bd e σ G H) : ∀ vs : List Nat, Rel K B bd (wipeE e vs) (L2.wipe σ vs) G H
  | [] => r
  | v :: vs => (r.wipe vs).forget v
theorem wipe_same {σ σ' : L2.St} (hl : σ'.length = σ.length) : ∀ (vs : List Nat), (∀ j, j ∉ vs → σ'[j]? = σ[j]?) → L2.wipe σ' vs = L2.wipe σ vs := by
  have key : ∀ (τ : L2.St) (vs : List Nat) (j : Nat), (L2.wipe τ vs)[j]? = if j ∈ vs then (if j < τ.length then some none else none) else τ[j]? := by
    intro τ vs
    induction vs with
    | nil => intro j; simp [L2.wipe]
    | cons v vs ih =>
      intro j
      unfold L2.wipe
      by_cases q : j = v
      · subst q
        have hz : (L2.wipe τ vs).length = τ.length := wipe_length τ vs
        rw [if_pos List.mem_cons_self]
        by_cases hj : j < τ.length
        · rw [List.getElem?_set_self (by rw [hz]; exact hj), if_pos hj]
        · rw [List.getElem?_eq_none (by rw [List.length_set, hz]; omega), if_neg hj]
      · rw [set_ne q, ih]
        by_cases m : j ∈ vs
        · rw [if_pos m, if_pos (List.mem_cons_of_mem _ m)]
        · rw [if_neg m, if_neg (fun z => (List.mem_cons.mp z).elim q m)]
  intro vs h
  apply List.ext_getElem?
  intro j
  rw [key, key, hl]
  by_cases m : j ∈ vs
  · rw [if_pos m, if_pos m]
  · rw [if_neg m, if_neg m]; exact h j m
theorem wipe_wipe (σ : L2.St) (vs : List Nat) : L2.wipe (L2.wipe σ vs) vs = L2.wipe σ vs := wipe_same (wipe_length σ vs) vs fun j hj => by
  induction vs with
  | nil => rfl
  | cons v vs ih =>
    unfold L2.wipe
    rw [set_ne (fun z => hj (by rw [z]; exact List.mem_cons_self)), ih fun z => hj (List.mem_cons_of_mem _ z)]
/-- the turns of a comprehension: what is left, what is made -/
def lcGo (mg : MG) (mt : MT) (me : M) (e : En) (Q : List PyData → Prop) : List PyData → List PyData → Prop
  | [], acc => Q acc
  | d :: ds, acc => mg (.d d) e fun e1 => mt e1 fun b => if b = true then me e1 fun u => match u with
      | .d x => lcGo mg mt me e Q ds (acc ++ [x])
      | _ => False
    else lcGo mg mt me e Q ds acc
def mLc (mi : MI) (mg : MG) (mt : MT) (me : M) (vs : List Nat) : MO := fun e Q => mi e fun ds => ds.length ≤ 1000000 ∧ lcGo mg mt me (wipeE e vs) Q ds []
variable {mi : MI} {mg : MG} {mt : MT} {me : M}
theorem lcGo_mono (hg : ∀ u e (P P' : En → Prop), (∀ e, P e → P' e) → mg u e P → mg u e P') (ht : ∀ e (P P' : Bool → Prop), (∀ u, P u → P' u) → mt e P → mt e P') (he : ∀ e (P P' : U → Prop), (∀ u, P u → P' u) → me e P → me e P')
    {e : En} {Q Q' : List PyData → Prop} (h : ∀ ds, Q ds → Q' ds) : ∀ (ds acc : List PyData), lcGo mg mt me e Q ds acc → lcGo mg mt me e Q' ds acc
  | [], acc, q => h acc q
  | d :: ds, acc, q => hg _ _ _ _ (fun e1 q => ht e1 _ _ (fun b q => by
    cases b with
    | true =>
      rw [if_pos rfl] at q ⊢
      refine he e1 _ _ (fun u q => ?_) q
      match u, q with
      | .d x, q => exact lcGo_mono hg ht he h ds _ q
    | false =>
      rw [if_neg (by decide)] at q ⊢
      exact lcGo_mono hg ht he h ds _ q) q) q
/-- a clause's tests -/
structure XTs (X : Cx) (B : Bs) (xs : List Expr) (m : MT) (f : Cst) : Prop where
  mono : ∀ e (P P' : Bool → Prop), (∀ u, P u → P' u) → m e P → m e P'
  pt : PTs X xs (tMT X.K B m f)
def mYes : MT := fun _ Q => Q true
theorem ptsW {xs : List Expr} {t t' : TT} (h : PTs X xs t) (w : ∀ σ H Q, t' σ H Q → t σ H Q) : PTs X xs t' := ⟨fun pins s σ H Q I q => h.run pins s σ H Q I (w σ H Q q)⟩
theorem xts_nil : XTs X B [] mYes cz := ⟨fun e P P' h q => h _ q, ptsW pts_nil fun σ H Q ⟨e, G, dd, r, q⟩ => q H G r .refl⟩
theorem xts_one {c : Expr} (h : XT X B c mt f) : XTs X B [c] mt f := ⟨h.mono, pts_one h.pt⟩
/-- a comprehension's cost -/
abbrev lcC (fi ft fe : Cst) : Cst := sq fi (cn (1000000 * ft.1 (fe.1 0)))
/-- the reading of a comprehension, by its meaning -/
theorem lc_conv {tg it : Expr} {js vs : List Nat} (hi : XI X B tg it mi fi) (hgm : ∀ u e (P P' : En → Prop), (∀ e, P e → P' e) → mg u e P → mg u e P') (htm : ∀ e (P P' : Bool → Prop), (∀ u, P u → P' u) → mt e P → mt e P') (hem : ∀ e (P P' : U → Prop), (∀ u, P u → P' u) → me e P → me e P')
    (hj : ∀ j, j ∈ js → j ∈ vs) (hz : ∀ d, ft.1 (fe.1 d) ≤ d + ft.1 (fe.1 0)) {σ : L2.St} {H : Hp} {Q : VK} (h : tMO X.K B (mLc mi mg mt me vs) (lcC fi ft fe) σ H Q) : tLc (tMI X.K B mi fi) (tMG X.K B js mg) (tMT X.K B mt ft) (tM X.K B me fe) vs σ H Q := by
  obtain ⟨e, G, dd, r, h⟩ := h
  refine ⟨e, G, _, r, hi.mono e _ _ (fun ds q J H1 G1 r1 x1 w => ?_) h⟩
  obtain ⟨hl, q⟩ := q
  let c := ft.1 (fe.1 0)
  have r1 : Rel X.K B (dd + ds.length * c) e σ G1 H1 := r1.le (Nat.add_le_add_left (Nat.mul_le_mul_right _ hl) _)
  obtain ⟨Y, wk, yl⟩ := w
  intro D hD
  have nD := r1.nopot hD
  have HD : H D = none := ext_both x1.ext hD nD
  refine lc_it wk (fun i H' => ∃ G2 ws acc, Rel X.K B (dd + (ds.length - i) * c) e σ G2 H' ∧ Nxt B.pt G H G2 H' ∧ Nxt B.pt G1 H1 G2 H' ∧ H' D = some (.lst ws) ∧ Dats X.K G2 ws acc ∧ G2 D = none ∧ acc.length ≤ i ∧ lcGo mg mt me (wipeE e vs) (fun ds => ∀ p vs H2 G2, Rel X.K B dd e σ G2 H2 → Nxt B.pt G H G2 H2 → H p = none → G2 p = none → H2 p = some (.lst vs) → Dats X.K G2 vs ds → Q (.ref p) H2) (ds.drop i) acc)
    ⟨G1, [], [], (by rw [Nat.sub_zero]; exact r1.laid hD _), x1.trans (nxt_only hD _), nxt_only hD _, upd_same, .nil, r1.gold hD, Nat.le_refl _, q⟩ (fun i H' _ ⟨G2, ws, acc, r2, x2, y2, _⟩ => y2.ext) (fun i v H' H2 hi' ⟨G2, ws, acc, r2, x2, y2, hd2, dd2, gd2, hl2, q2⟩ y => ?_) fun H' ⟨G2, ws, acc, r2, x2, y2, hd2, dd2, gd2, hl2, q2⟩ => ?_
  · have hd : ds.drop i = ds[i] :: ds.drop (i + 1) := List.drop_eq_getElem_cons hi'
    rw [hd] at q2
    have bud : ft.1 (fe.1 (dd + (ds.length - (i + 1)) * c)) ≤ dd + (ds.length - i) * c := by
      have h1 := hz (dd + (ds.length - (i + 1)) * c)
      have h2 : ds.length - i = ds.length - (i + 1) + 1 := by omega
      rw [h2, Nat.add_mul, Nat.one_mul]
      show _ ≤ dd + (_ + ft.1 (fe.1 0))
      rw [← Nat.add_assoc]
      exact h1
    have fin : ∀ G3, Rel X.K B (dd + (ds.length - i) * c) e σ G3 H2 → Nxt B.pt G2 H' G3 H2 → UD X.K B.pt G3 v (.d ds[i]) → H2 D = some (.lst ws) → G3 D = none → tMG X.K B js mg v (L2.wipe σ vs) H2 fun σ2 H3 => L2.wipe σ2 vs = L2.wipe σ vs ∧ tMT X.K B mt ft σ2 H3 fun b H3 =>
        if b = true then tM X.K B me fe σ2 H3 fun y H4 => ∃ acc, H4 D = some (.lst acc) ∧ acc.length < sizeLine ∧ (fun H' => ∃ G2 ws acc, Rel X.K B (dd + (ds.length - (i + 1)) * c) e σ G2 H' ∧ Nxt B.pt G H G2 H' ∧ Nxt B.pt G1 H1 G2 H' ∧ H' D = some (.lst ws) ∧ Dats X.K G2 ws acc ∧ G2 D = none ∧ acc.length ≤ i + 1 ∧ lcGo mg mt me (wipeE e vs) (fun ds => ∀ p vs H2 G2, Rel X.K B dd e σ G2 H2 → Nxt B.pt G H G2 H2 → H p = none → G2 p = none → H2 p = some (.lst vs) → Dats X.K G2 vs ds → Q (.ref p) H2) (ds.drop (i + 1)) acc) (upd H4 D (.lst (acc ++ [y]))) else
          (fun H' => ∃ G2 ws acc, Rel X.K B (dd + (ds.length - (i + 1)) * c) e σ G2 H' ∧ Nxt B.pt G H G2 H' ∧ Nxt B.pt G1 H1 G2 H' ∧ H' D = some (.lst ws) ∧ Dats X.K G2 ws acc ∧ G2 D = none ∧ acc.length ≤ i + 1 ∧ lcGo mg mt me (wipeE e vs) (fun ds => ∀ p vs H2 G2, Rel X.K B dd e σ G2 H2 → Nxt B.pt G H G2 H2 → H p = none → G2 p = none → H2 p = some (.lst vs) → Dats X.K G2 vs ds → Q (.ref p) H2) (ds.drop (i + 1)) acc) H3 := by
      intro G3 r3 x3 u3 hd3 gd3
      refine ⟨wipeE e vs, G3, _, .d ds[i], r3.wipe vs, u3, hgm _ _ _ _ (fun e1 q σ2 r4 k4 l4 => ⟨?_, e1, G3, _, r4.le bud, htm _ _ _ (fun b q H5 G5 r5 x5 => ?_) q⟩) q2⟩
      · rw [← wipe_wipe σ vs]
        exact wipe_same l4 vs fun j hj' => k4 j fun z => hj' (hj j z)
      · have back : ∀ {b' : Nat} {σ' : L2.St} {e' : En} {G6 H6}, Rel X.K B b' e' σ' G6 H6 → Nxt B.pt G3 H2 G6 H6 → Rel X.K B b' e σ G6 H6 ∧ Nxt B.pt G H G6 H6 ∧ Nxt B.pt G1 H1 G6 H6 ∧ H6 D = some (.lst ws) ∧ G6 D = none := fun {b' σ' e' G6 H6} r6 x6 => by
          refine ⟨r3.after r6.sub x6.same r6.gpot r6.J x6.ext fun a o z => ?_, x2.trans (x3.trans x6), y2.trans (x3.trans x6), x6.ext D _ hd3 nD, ?_⟩
          · rcases x6.grow a o z with t | t | t | t
            · exact .inl t
            · exact .inr (.inl t)
            · rw [r6.gpot a t] at z; cases z
            · exact .inr (.inr t)
          · cases z : G6 D with
            | none => rfl
            | some o =>
              rcases x6.grow D o z with t | t | t | ⟨xs, t⟩
              · rw [gd3] at t; cases t
              · rw [hd3] at t; cases t
              · exact absurd t nD
              · have := (x6.ext D _ hd3 nD).symm.trans (r6.sub D o z)
                rw [t] at this; cases this
        cases b with
        | true =>
          rw [if_pos rfl] at q
          refine iteT ?_
          refine ⟨e1, G5, _, r5, hem _ _ _ (fun u q v6 H6 G6 r6 x6 d6 => ?_) q⟩
          obtain ⟨b1, b2, b3, b4, b5⟩ := back r6 (x5.trans x6)
          match u, q, d6 with
          | .d x, q, d6 =>
            refine ⟨ws, b4, ?_, G6, ws ++ [v6], acc ++ [x], ?_, ?_, ?_, upd_same, ((dd2.mono (x3.same.trans (x5.same.trans x6.same))).app (.one d6)), b5, by rw [List.length_append, List.length_singleton]; omega, q⟩
            · rw [dd2.len]
              exact lt_line (by omega)
            · have oldD : B.H0 D = none := r.old HD
              have noD : ∀ (i : Nat) (t : Sl), e[i]? = some (some t) → t.isOwn = true → σ[i]? ≠ some (some (.ref D)) := rel_no r b1 HD
              refine ⟨fun a o z => ?_, b1.sub0, b1.grow, b1.gpot, B.pt.loc H6 _ (fun a ha => upd_ne fun z => nD (z ▸ ha)) b1.J, fun a o z n => ?_, b1.len, b1.val, fun i' ds' z hz => ?_, b1.sep⟩
              · have ne : a ≠ D := fun t => by rw [t, b5] at z; cases z
                rw [upd_ne ne]; exact b1.sub a o z
              · have ne : a ≠ D := fun t => by rw [t, oldD] at z; cases z
                rw [upd_ne ne]; exact b1.frame a o z n
              · obtain ⟨p', vs', k1, k2, k3⟩ := b1.own i' ds' z hz
                have ne : p' ≠ D := fun t => noD i' ds' z hz (t ▸ k1)
                exact ⟨p', vs', k1, by rw [upd_ne ne]; exact k2, k3⟩
            · refine ⟨b2.same, fun a o z n => ?_, b2.grow⟩
              have ne : a ≠ D := fun t => by rw [t, HD] at z; cases z
              rw [upd_ne ne]; exact b2.ext a o z n
            · refine ⟨b3.same, fun a o z n => ?_, b3.grow⟩
              have ne : a ≠ D := fun t => by rw [t, hD] at z; cases z
              rw [upd_ne ne]; exact b3.ext a o z n
        | false =>
          rw [if_neg (by decide)] at q
          refine iteF ?_
          obtain ⟨b1, b2, b3, b4, b5⟩ := back (r5.le (fe.2 _)) x5
          exact ⟨G5, ws, acc, b1, b2, b3, b4, dd2.mono (x3.same.trans x5.same), b5, by omega, q⟩
    rcases yl i H' v H2 ds[i] y2.ext y (List.getElem?_eq_getElem hi') with ⟨h1, h2⟩ | ⟨T, ws', es, h1, h2, h3, h4, h5⟩
    · subst h1
      exact fin G2 r2 .refl (h2.mono y2.same) hd2 gd2
    · subst h2
      have ne : D ≠ T := ne_of_none hd2 h1
      have gT := r2.gold h1
      have nx := nxt_laid (pt := B.pt) gT h1 (HO.tup ws')
      refine fin _ (r2.new h1 _) nx ?_ (by rw [upd_ne ne]; exact hd2) (by rw [upd_ne ne]; exact gd2)
      rw [h3]
      show Dat _ _ _ ds[i]
      rw [h4]
      exact .tup upd_same ((h5.mono y2.same).mono nx.same)
  · rw [List.drop_length] at q2
    exact q2 D ws H' G2 (r2.le (Nat.le_add_right _ _)) x2 HD gd2 hd2 dd2
theorem mLc_mono {tg it : Expr} {vs : List Nat} (hi : XI X B tg it mi fi) (hgm : ∀ u e (P P' : En → Prop), (∀ e, P e → P' e) → mg u e P → mg u e P') (htm : ∀ e (P P' : Bool → Prop), (∀ u, P u → P' u) → mt e P → mt e P') (hem : ∀ e (P P' : U → Prop), (∀ u, P u → P' u) → me e P → me e P') :
    ∀ e (P P' : List PyData → Prop), (∀ u, P u → P' u) → mLc mi mg mt me vs e P → mLc mi mg mt me vs e P' := fun e P P' h q => hi.mono e _ _ (fun ds q => ⟨q.1, lcGo_mono hgm htm hem h ds [] q.2⟩) q
/-- the parts of a comprehension -/
structure LcP (X : Cx) (B : Bs) (elt tg it : Expr) (ifs : List Expr) (scope : Scope) (own : List (Str × Nat)) (js : List Nat) (mi : MI) (mg : MG) (mt : MT) (me : M) (fi ft fe : Cst) : Prop where
  hi : XI X B tg it mi fi
  ok : BlkOk X.N X.env.scope scope own
  hg : ∀ (s : Shared) (H : Hp) (C : Addr) (cl : List (Str × Addr)) (fp : List Addr), XG (X.blk s H scope (compEnvC scope cl C X.env) fp) B tg js mg
  ht : ∀ (s : Shared) (H : Hp) (C : Addr) (cl : List (Str × Addr)) (fp : List Addr), XTs (X.blk s H scope (compEnvC scope cl C X.env) fp) B ifs mt ft
  he : ∀ (s : Shared) (H : Hp) (C : Addr) (cl : List (Str × Addr)) (fp : List Addr), XE (X.blk s H scope (compEnvC scope cl C X.env) fp) B elt me fe
  hj : ∀ j, j ∈ js → j ∈ own.map (·.2)
  at0 : Nonempty (Shared × Hp)
  hz : ∀ d, ft.1 (fe.1 d) ≤ d + ft.1 (fe.1 0) := by intro d; dsimp only; omega
theorem at_any : Nonempty (Shared × Hp) := ⟨(({} : Shared), fun _ => none)⟩
theorem LcP.gm {elt tg it : Expr} {ifs : List Expr} {scope : Scope} {own : List (Str × Nat)} {js : List Nat} (L : LcP X B elt tg it ifs scope own js mi mg mt me fi ft fe) : ∀ u e (P P' : En → Prop), (∀ e, P e → P' e) → mg u e P → mg u e P' :=
  let ⟨(s, H)⟩ := L.at0; (L.hg s H 0 [] []).mono
theorem LcP.tm {elt tg it : Expr} {ifs : List Expr} {scope : Scope} {own : List (Str × Nat)} {js : List Nat} (L : LcP X B elt tg it ifs scope own js mi mg mt me fi ft fe) : ∀ e (P P' : Bool → Prop), (∀ u, P u → P' u) → mt e P → mt e P' :=
  let ⟨(s, H)⟩ := L.at0; (L.ht s H 0 [] []).mono
theorem LcP.em {elt tg it : Expr} {ifs : List Expr} {scope : Scope} {own : List (Str × Nat)} {js : List Nat} (L : LcP X B elt tg it ifs scope own js mi mg mt me fi ft fe) : ∀ e (P P' : U → Prop), (∀ u, P u → P' u) → me e P → me e P' :=
  let ⟨(s, H)⟩ := L.at0; (L.he s H 0 [] []).mono
theorem xo_lc {elt tg it : Expr} {ifs : List Expr} {scope : Scope} {own : List (Str × Nat)} {js : List Nat} {pos : Pos} (hN : X.N.Nodup) (L : LcP X B elt tg it ifs scope own js mi mg mt me fi ft fe) (hc : X.calm = true := by rfl) (hs : ∀ x, foldedSetIterable it X.env x = pure x := by intro _; rfl) :
    XO X B (.ListComp elt [⟨tg, it, ifs, 0⟩] scope pos) (mLc mi mg mt me (own.map (·.2))) (lcC fi ft fe) :=
  ⟨mLc_mono L.hi L.gm L.tm L.em, peW (pe_lc hc hN L.hi.pi L.ok (fun s H C cl fp => (L.hg s H C cl fp).pg) (fun s H C cl fp => (L.ht s H C cl fp).pt) (fun s H C cl fp => (L.he s H C cl fp).pe) hs) fun σ H Q h => lc_conv L.hi L.gm L.tm L.em L.hj L.hz h⟩
/-- y = [..] on one line, y a local -/
theorem xs_setLcO (i : Nat) {y : Str} {py : Pos} {elt tg it : Expr} {ifs : List Expr} {scope : Scope} {own : List (Str × Nat)} {js : List Nat} {pos spos : Pos} (hN : X.N.Nodup) (L : LcP X B elt tg it ifs scope own js mi mg mt me fi ft fe)
    (hy : X.N[i]? = some y := by rfl) (hyl : X.env.scope.names.lookup y = some .local := by rfl) (hsw : swapsWith (.ListComp elt [⟨tg, it, ifs, 0⟩] scope pos) (some (.Name y py)) spos.line X.env = pure true := by exact sw_true rfl rfl rfl (by decide +kernel))
    (hc : X.calm = true := by rfl) (hs : ∀ x, foldedSetIterable it X.env x = pure x := by intro _; rfl) : XS X B (.Assign [.Name y py] (.ListComp elt [⟨tg, it, ifs, 0⟩] scope pos) spos) (mSetO i (mLc mi mg mt me (own.map (·.2)))) (lcC fi ft fe) :=
  xs_storeO (xo_lc (pos := pos) hN L hc hs) (ps_setLc hc hN hy hyl hsw L.hi.pi L.ok (fun s H C cl fp => (L.hg s H C cl fp).pg) (fun s H C cl fp => (L.ht s H C cl fp).pt) (fun s H C cl fp => (L.he s H C cl fp).pe) hs) fun σ H Q h => lc_conv L.hi L.gm L.tm L.em L.hj L.hz h
theorem xs_setLc (i : Nat) {y : Str} {py : Pos} {elt tg it : Expr} {ifs : List Expr} {scope : Scope} {own : List (Str × Nat)} {js : List Nat} {pos spos : Pos} (hN : X.N.Nodup) (L : LcP X B elt tg it ifs scope own js mi mg mt me fi ft fe)
    (hy : X.N[i]? = some y := by rfl) (hyl : X.env.scope.names.lookup y = some .local := by rfl) (hsw : swapsWith (.ListComp elt [⟨tg, it, ifs, 0⟩] scope pos) (some (.Name y py)) spos.line X.env = pure true := by exact sw_true rfl rfl rfl (by decide +kernel))
    (hc : X.calm = true := by rfl) (hs : ∀ x, foldedSetIterable it X.env x = pure x := by intro _; rfl) : XS X B (.Assign [.Name y py] (.ListComp elt [⟨tg, it, ifs, 0⟩] scope pos) spos) (mSet i fun e Q => mLc mi mg mt me (own.map (·.2)) e fun ds => Q (.d (.list ds))) (lcC fi ft fe) :=
  ⟨mSet_mono (xe_o (xo_lc (pos := pos) hN L hc hs)) i, psW (ps_setLc hc hN hy hyl hsw L.hi.pi L.ok (fun s H C cl fp => (L.hg s H C cl fp).pg) (fun s H C cl fp => (L.ht s H C cl fp).pt) (fun s H C cl fp => (L.he s H C cl fp).pe) hs) fun D σ H ⟨e, G, dd, r, q⟩ =>
    lc_conv L.hi L.gm L.tm L.em L.hj L.hz ((xo_lc hN L hc hs (pos := pos)).go r q fun ds q p vs H1 G1 r1 x1 n1 g1 h1 d1 => by
      have sg := same_laid g1 (HO.lst vs)
      exact q _ H1 _ ((r1.froze h1 g1 (r.old n1) (r.nopot n1) (rel_no r r1 n1)).store (u := .d (.list ds)) (Dat.lst upd_same (d1.mono sg)) i) (x1.same.trans sg))⟩
end
end Fd

set_option Elab.async false
set_option linter.all false
set_option maxRecDepth 100000
set_option maxHeartbeats 400000
/-! Fd, part E: operators and built-ins over data. -/
namespace Fd
open PySem PySem.Spec PyProof.Rows L2

/-! ### data is read -/
section
variable {X : Cx} {pins : List (Addr × Obj)} {σ : L2.St} {H : Hp} {s : Shared}
mutual
theorem Dat.reads (I : Inv X pins σ H s) : ∀ {v : V} {d : PyData} {u : Value}, Dat X.K H v d → d.plain = true → RelV v u → ∃ as, Reads s.heap u d as
  | _, _, _, .non, _, r => by cases r; exact ⟨_, Reads.none⟩
  | _, _, _, .bl b, _, r => by cases r; exact ⟨_, Reads.bool b⟩
  | _, _, _, .int i, _, r => by obtain ⟨t, rfl⟩ := r; exact ⟨_, Reads.int i t⟩
  | _, _, _, .str x, _, r => by obtain ⟨t, rfl⟩ := r; exact ⟨_, Reads.str x t⟩
  | _, _, _, .lst (ds := ds) h1 h2, hp, r => by
    cases r
    obtain ⟨its, rv, ⟨o, n, ho, hc, _, hd⟩, _⟩ := I.list (.inl (.inl h1))
    obtain ⟨as, q⟩ := Dats.reads I h2 (by simpa only [PyData.plain] using hp) rv
    exact ⟨_, Reads.list ho hc hd q⟩
  | _, _, _, .tup (ds := ds) h1 h2, hp, r => by
    cases r
    obtain ⟨its, rv, ⟨o, ho, hc, n, hd⟩, _⟩ := I.tuple (.inl (.inl h1))
    obtain ⟨as, q⟩ := Dats.reads I h2 (by simpa only [PyData.plain] using hp) rv
    exact ⟨_, Reads.tuple ho hc hd q⟩
  | _, _, _, .dct h1 h2, hp, r => by simp [PyData.plain] at hp
theorem Dats.reads (I : Inv X pins σ H s) : ∀ {vs : List V} {ds : List PyData} {us : List Value}, Dats X.K H vs ds → PyData.plainAll ds = true → Vals vs us → ∃ as, ReadsAll s.heap us ds as
  | _, _, _, .nil, _, r => by cases r; exact ⟨_, ReadsAll.nil⟩
  | _, _, _, .cons h1 h2, hp, r => by
    cases r with
    | cons r1 r2 =>
      simp only [PyData.plainAll, Bool.and_eq_true] at hp
      obtain ⟨as, q1⟩ := Dat.reads I h1 hp.1 r1
      obtain ⟨bs, q2⟩ := Dats.reads I h2 hp.2 r2
      exact ⟨_, ReadsAll.cons q1 q2⟩
end
end

/-! ### operators -/
section
variable {X : Cx} {B : Bs} {K : PySem.W.Frag}
def gI (f : Int → Int → (U → Prop) → Prop) : G2
  | .d (.int i), .d (.int j), Q => f i j Q
  | _, _, _ => False
theorem gI_out {f : Int → Int → (U → Prop) → Prop} {Q : U → Prop} : ∀ {u w : U}, gI f u w Q → ∃ i j, u = .d (.int i) ∧ w = .d (.int j) ∧ f i j Q
  | .d (.int i), .d (.int j), h => ⟨i, j, rfl, rfl, h⟩
/-- an operator of two ints -/
theorem ok_int {r : R2} {C : Int → Int → Prop} {f : Int → Int → V} {f' : Int → Int → PyData} (hr : ∀ i j H Q, C i j → Q (f i j) H → r (.int i) (.int j) H Q) (hf : ∀ G i j, Dat K G (f i j) (f' i j)) : OkR K B r (gI fun i j Q => C i j ∧ Q (.d (f' i j))) where
  mono := fun u w Q Q' h q => by
    obtain ⟨i, j, rfl, rfl, c, q⟩ := gI_out q
    exact ⟨c, h _ q⟩
  ok := fun bd e σ G H x y u w Q R rl dx dy q k => by
    obtain ⟨i, j, rfl, rfl, c, q⟩ := gI_out q
    cases dx
    cases dy
    exact hr i j H R c (k _ _ H G q rl .refl (hf G i j))
/-- .. with no condition -/
theorem ok_int0 {r : R2} {f : Int → Int → V} {f' : Int → Int → PyData} (hr : ∀ i j H Q, Q (f i j) H → r (.int i) (.int j) H Q) (hf : ∀ G i j, Dat K G (f i j) (f' i j)) : OkR K B r (gI fun i j Q => Q (.d (f' i j))) where
  mono := fun u w Q Q' h q => by
    obtain ⟨i, j, rfl, rfl, q⟩ := gI_out q
    exact h _ q
  ok := fun bd e σ G H x y u w Q R rl dx dy q k => by
    obtain ⟨i, j, rfl, rfl, q⟩ := gI_out q
    cases dx
    cases dy
    exact hr i j H R (k _ _ H G q rl .refl (hf G i j))
abbrev gSub : G2 := gI fun i j Q => Q (.d (.int (i - j)))
theorem ok_sub : OkR K B (rI0 fun i j => .int (i - j)) gSub := ok_int0 (fun i j H Q q => ⟨i, j, rfl, rfl, q⟩) fun _ _ _ => .int _
def CDv (i j : Int) : Prop := 0 < j ∧ j.natAbs.log2 < 9000
abbrev gDiv : G2 := gI fun i j Q => CDv i j ∧ Q (.d (.int (i / j)))
theorem ok_div : OkR K B (rI CDivW fun i j => .int (i / j)) gDiv := ok_int (fun i j H Q c q => ⟨i, j, rfl, rfl, c, q⟩) fun _ _ _ => .int _
abbrev gMod : G2 := gI fun i j Q => 0 < j ∧ Q (.d (.int (i % j)))
theorem ok_mod : OkR K B (rI (fun _ j => 0 < j) fun i j => .int (i % j)) gMod := ok_int (fun i j H Q c q => ⟨i, j, rfl, rfl, c, q⟩) fun _ _ _ => .int _
abbrev gPow : G2 := gI fun i j Q => CPow i j ∧ Q (.d (.int (i ^ j.toNat)))
theorem ok_pow : OkR K B (rI CPow fun i j => .int (i ^ j.toNat)) gPow := ok_int (fun i j H Q c q => ⟨i, j, rfl, rfl, c, q⟩) fun _ _ _ => .int _
abbrev gCI (p : Int → Int → Bool) : G2 := gI fun i j Q => Q (.d (.bool (p i j)))
theorem ok_cI {p : Int → Int → Bool} : OkR K B (rI0 fun i j => .bl (p i j)) (gCI p) := ok_int0 (fun i j H Q q => ⟨i, j, rfl, rfl, q⟩) fun _ _ _ => .bl _
abbrev gLt : G2 := gCI fun i j => decide (i < j)
abbrev gLe : G2 := gCI fun i j => decide (i ≤ j)
abbrev gGt : G2 := gCI fun i j => decide (j < i)
abbrev gGe : G2 := gCI fun i j => decide (j ≤ i)
/-- a product: of ints; a list or a tuple some times -/
def CMl (i j : Int) : Prop := CMul i j ∨ CMulW i j
structure RepB (n : Nat) (k : Int) : Prop where
  lo : -(2 ^ 63) ≤ k
  hi : k < 2 ^ 63
  le : n * k.toNat ≤ 1000000
structure RepT (n : Nat) (k : Int) : Prop where
  ne : 0 < n
  lo : 1 ≤ k
  hi : k ≤ 1000
  le : n ≤ 1000
structure Fits (n : Nat) : Prop where
  le : n ≤ 1000000
theorem tuple_mul1 (l : Addr) (items : Array Value) (n : Nat) (dd : Option Addr) (sl : Array (Option Value)) (u : Tok) :
    Meets (Builtin.«tuple.__mul__» ⟨[.ref l, .int 1 u], []⟩) (fun _ R s => s.heap.get? l = some { cls := .type "tuple", dict := dd, data := .seq items n, slots := sl } ∧ R (.ok (.ret (Value.ref l))) s) :=
  .of_wp fun prog w A R s h => by
    obtain ⟨hp, g, d, tk, os⟩ := s
    obtain ⟨hl, h⟩ := h
    have f1 := AutoSeq1.idx_int
    have c0 : (decide ((1 : Int) < -(2 ^ 63)) || decide ((1 : Int) ≥ 2 ^ 63)) = false := by decide
    have c1 : (items.isEmpty || (1 : Int) == 1) = true := by simp
    wp_walk using wpAny_loadPart' hl
    repeat (first
      | (refine wpAny_ite_false (decide_eq_false (by rw [c0]; exact Bool.false_ne_true)) ?_; wp_walk using wpAny_loadPart' hl)
      | (refine wpAny_ite_true (decide_eq_true (by rw [c1])) ?_; wp_walk using wpAny_loadPart' hl))
    exact ⟨_, rfl, h⟩
/-- a tuple once is itself -/
def rRepT1 (K : PySem.W.Frag) : R2 := fun x y H Q => ∃ l xs, x = .ref l ∧ y = .int 1 ∧ SqT K H l xs ∧ Q (.ref l) H
theorem op_repT1 : OpR X (binaryOp .Mult) (rRepT1 X.K) := by
  intro pins s σ H x y v u Q I rx ry h
  obtain ⟨l, xs, rfl, rfl, hT, q⟩ := h
  cases rx
  obtain ⟨t, rfl⟩ := ry
  obtain ⟨its, r, ⟨⟨cls, dd, data, sl⟩, ho, hc, n, hd⟩, hs⟩ := I.tuple hT
  simp only at hc hd
  subst hc hd
  refine wpAny_binaryOp_repeat_ref (T := "tuple") (U := "int") (by decide) ⟨_, ho, rfl⟩ (fun s' => typeIs_int s' 1 t) noFill_tuple_mul F.fills_int_mul F.slot_int_rmul repeat_tuple F.slot_int_index.lookup
    (call_meets F.slot_int_rmul (typeIs_int s 1 t) F.entry_int_rmul (F.args_int_rmul_2 _ _) (int_rmul_tuple 1 t l its.toArray n dd sl)
      ⟨ho, rfl, ⟨_, ho, rfl⟩, call_meets F.slot_tuple_mul ⟨_, ho, rfl⟩ F.entry_tuple_mul (F.args_tuple_mul_2 _ _) (tuple_mul1 l its.toArray n dd sl t) ⟨ho, ?_⟩⟩)
  exact ⟨.ref l, H, I, rfl, q⟩
def gMul : G2
  | .d (.int i), .d (.int j), Q => CMl i j ∧ Q (.d (.int (i * j)))
  | .d (.list ds), .d (.int k), Q => RepB ds.length k ∧ Q (.d (.list (List.replicate k.toNat ds).flatten))
  | .d (.tuple ds), .d (.int k), Q => RepT ds.length k ∧ Q (.d (.tuple (List.replicate k.toNat ds).flatten))
  | _, _, _ => False
theorem gMul_out {Q : U → Prop} {u w : U} (q : gMul u w Q) : (∃ i j, u = .d (.int i) ∧ w = .d (.int j) ∧ CMl i j ∧ Q (.d (.int (i * j)))) ∨
    (∃ ds k, u = .d (.list ds) ∧ w = .d (.int k) ∧ RepB ds.length k ∧ Q (.d (.list (List.replicate k.toNat ds).flatten))) ∨
    ∃ ds k, u = .d (.tuple ds) ∧ w = .d (.int k) ∧ RepT ds.length k ∧ Q (.d (.tuple (List.replicate k.toNat ds).flatten)) := by
  unfold gMul at q
  split at q
  · exact .inl ⟨_, _, rfl, rfl, q⟩
  · exact .inr (.inl ⟨_, _, rfl, rfl, q⟩)
  · exact .inr (.inr ⟨_, _, rfl, rfl, q⟩)
  · exact q.elim
def rMl (K : PySem.W.Frag) : R2 := fun x y H Q => (rI CMul fun i j => .int (i * j)) x y H Q ∨ (rI CMulW fun i j => .int (i * j)) x y H Q ∨ rRep x y H Q ∨ rRepT K x y H Q ∨ rRepT1 K x y H Q
theorem op_ml : OpR X (binaryOp .Mult) (rMl X.K) := op_mul.or (op_mulW.or (op_rep.or (op_repT.or op_repT1)))
theorem Dats.rep {G : Hp} {vs : List V} {ds : List PyData} (h : Dats K G vs ds) : ∀ n : Nat, Dats K G (List.replicate n vs).flatten (List.replicate n ds).flatten
  | 0 => .nil
  | n + 1 => by
    rw [List.replicate_succ, List.replicate_succ, List.flatten_cons, List.flatten_cons]
    exact h.app (Dats.rep h n)
theorem ok_mul : OkR K B (rMl K) gMul where
  mono := fun u w Q Q' h q => by
    rcases gMul_out q with ⟨i, j, rfl, rfl, c, q⟩ | ⟨ds, k, rfl, rfl, c, q⟩ | ⟨ds, k, rfl, rfl, c, q⟩
    · exact ⟨c, h _ q⟩
    · exact ⟨c, h _ q⟩
    · exact ⟨c, h _ q⟩
  ok := fun bd e σ G H x y u w Q R rl dx dy q k => by
    rcases gMul_out q with ⟨i, j, rfl, rfl, c, q⟩ | ⟨ds, n, rfl, rfl, c, q⟩ | ⟨ds, n, rfl, rfl, c, q⟩
    · cases dx
      cases dy
      have z := k _ (.int (i * j)) H G q rl .refl (.int _)
      rcases c with c | c
      · exact .inl ⟨i, j, rfl, rfl, c, z⟩
      · exact .inr (.inl ⟨i, j, rfl, rfl, c, z⟩)
    · cases dy
      cases dx with
      | @lst a xs _ h1 h2 =>
        refine .inr (.inr (.inl ⟨a, n, xs, rfl, rfl, rl.sub _ _ h1, c.lo, c.hi, ?_, fun p hp => ?_⟩))
        · rw [h2.len]; exact le_line c.le
        · exact k _ _ _ _ q (rl.new hp _) (nxt_laid (rl.gold hp) hp _) (.lst upd_same ((h2.rep _).mono (same_laid (rl.gold hp) _)))
    · cases dy
      cases dx with
      | @tup a xs _ h1 h2 =>
        have hl := h2.len
        have c1 := c.ne
        by_cases n1 : n = 1
        · subst n1
          have e1 : (List.replicate (1 : Int).toNat ds).flatten = ds := by simp
          rw [e1] at q
          exact .inr (.inr (.inr (.inr ⟨a, xs, rfl, rfl, .inl (.inl (rl.sub _ _ h1)), k _ _ H G q rl .refl (.tup h1 h2)⟩)))
        have c2 := c.lo
        refine .inr (.inr (.inr (.inl ⟨a, n, xs, rfl, rfl, (.inl (.inl (rl.sub _ _ h1))), fun z => ?_, by omega, c.hi, by rw [hl]; exact c.le, fun p hp => ?_⟩)))
        · rw [z, List.length_nil] at hl
          omega
        · exact k _ _ _ _ q (rl.new hp _) (nxt_laid (rl.gold hp) hp _) (.tup upd_same ((h2.rep _).mono (same_laid (rl.gold hp) _)))
/-- a sum: of ints, texts, lists, tuples -/
def gAdd : G2
  | .d (.int i), .d (.int j), Q => Q (.d (.int (i + j)))
  | .d (.bool b), .d (.int j), Q => Q (.d (.int ((if b = true then 1 else 0) + j)))
  | .d (.str x), .d (.str y), Q => Fits (x.length + y.length) ∧ Q (.d (.str (x ++ y)))
  | .d (.list ds), .d (.list es), Q => Fits (ds.length + es.length) ∧ Q (.d (.list (ds ++ es)))
  | .d (.tuple ds), .d (.tuple es), Q => Fits (ds.length + es.length) ∧ Q (.d (.tuple (ds ++ es)))
  | _, _, _ => False
theorem gAdd_out {Q : U → Prop} {u w : U} (q : gAdd u w Q) : (∃ i j, u = .d (.int i) ∧ w = .d (.int j) ∧ Q (.d (.int (i + j)))) ∨ (∃ b j, u = .d (.bool b) ∧ w = .d (.int j) ∧ Q (.d (.int ((if b = true then 1 else 0) + j)))) ∨ (∃ i j, u = .d (.str i) ∧ w = .d (.str j) ∧ Fits (i.length + j.length) ∧ Q (.d (.str (i ++ j)))) ∨
    (∃ i j, u = .d (.list i) ∧ w = .d (.list j) ∧ Fits (i.length + j.length) ∧ Q (.d (.list (i ++ j)))) ∨ ∃ i j, u = .d (.tuple i) ∧ w = .d (.tuple j) ∧ Fits (i.length + j.length) ∧ Q (.d (.tuple (i ++ j))) := by
  unfold gAdd at q
  split at q
  · exact .inl ⟨_, _, rfl, rfl, q⟩
  · exact .inr (.inl ⟨_, _, rfl, rfl, q⟩)
  · exact .inr (.inr (.inl ⟨_, _, rfl, rfl, q⟩))
  · exact .inr (.inr (.inr (.inl ⟨_, _, rfl, rfl, q⟩)))
  · exact .inr (.inr (.inr (.inr ⟨_, _, rfl, rfl, q⟩)))
  · exact q.elim
/-- a truth value and an int -/
def rBi (f : Int → Int → Int) : R2 := fun x y H Q => ∃ b j, x = .bl b ∧ y = .int j ∧ Q (.int (f (if b = true then 1 else 0) j)) H
theorem op_add_bi : OpR X (binaryOp .Add) (rBi fun i j => i + j) := fun pins s σ H x y v u Q I rx ry ⟨b, j, ex, ey, q⟩ => by
  subst ex ey
  cases rx
  obtain ⟨t, rfl⟩ := ry
  exact PySem.IntBool.add_bool_int ⟨.int _, H, I.tok _, ⟨_, rfl⟩, q⟩
theorem op_sub_bi : OpR X (binaryOp .Sub) (rBi fun i j => i - j) := fun pins s σ H x y v u Q I rx ry ⟨b, j, ex, ey, q⟩ => by
  subst ex ey
  cases rx
  obtain ⟨t, rfl⟩ := ry
  exact PySem.IntBool.sub_bool_int ⟨.int _, H, I.tok _, ⟨_, rfl⟩, q⟩
/-- a difference -/
def gSb : G2
  | .d (.int i), .d (.int j), Q => Q (.d (.int (i - j)))
  | .d (.bool b), .d (.int j), Q => Q (.d (.int ((if b = true then 1 else 0) - j)))
  | _, _, _ => False
theorem gSb_out {Q : U → Prop} {u w : U} (q : gSb u w Q) : (∃ i j, u = .d (.int i) ∧ w = .d (.int j) ∧ Q (.d (.int (i - j)))) ∨ ∃ b j, u = .d (.bool b) ∧ w = .d (.int j) ∧ Q (.d (.int ((if b = true then 1 else 0) - j))) := by
  unfold gSb at q
  split at q
  · exact .inl ⟨_, _, rfl, rfl, q⟩
  · exact .inr ⟨_, _, rfl, rfl, q⟩
  · exact q.elim
theorem op_sb : OpR X (binaryOp .Sub) (fun x y H Q => (rI0 fun i j => .int (i - j)) x y H Q ∨ rBi (fun i j => i - j) x y H Q) := op_sub.or op_sub_bi
theorem ok_sb : OkR K B (fun x y H Q => (rI0 fun i j => .int (i - j)) x y H Q ∨ rBi (fun i j => i - j) x y H Q) gSb where
  mono := fun u w Q Q' h q => by
    rcases gSb_out q with ⟨i, j, rfl, rfl, q⟩ | ⟨i, j, rfl, rfl, q⟩
    · exact h _ q
    · exact h _ q
  ok := fun bd e σ G H x y u w Q R rl dx dy q k => by
    rcases gSb_out q with ⟨i, j, rfl, rfl, q⟩ | ⟨i, j, rfl, rfl, q⟩
    · cases dx
      cases dy
      exact .inl ⟨i, j, rfl, rfl, k _ _ H G q rl .refl (.int _)⟩
    · cases dx
      cases dy
      exact .inr ⟨i, j, rfl, rfl, k _ _ H G q rl .refl (.int _)⟩
def rAd (K : PySem.W.Frag) : R2 := fun x y H Q => (rI0 fun i j => .int (i + j)) x y H Q ∨ (∃ i j, x = .str i ∧ y = .str j ∧ i.length + j.length ≤ sizeLine ∧ Q (.str (i ++ j)) H) ∨ rCat x y H Q ∨ rCatA K x y H Q ∨ rBi (fun i j => i + j) x y H Q
theorem op_ad : OpR X (binaryOp .Add) (rAd X.K) := op_add.or (op_add_str.or (op_cat.or (op_catA.or op_add_bi)))
theorem ok_add : OkR K B (rAd K) gAdd where
  mono := fun u w Q Q' h q => by
    rcases gAdd_out q with ⟨i, j, rfl, rfl, q⟩ | ⟨i, j, rfl, rfl, q⟩ | ⟨i, j, rfl, rfl, c, q⟩ | ⟨i, j, rfl, rfl, c, q⟩ | ⟨i, j, rfl, rfl, c, q⟩
    · exact h _ q
    · exact h _ q
    · exact ⟨c, h _ q⟩
    · exact ⟨c, h _ q⟩
    · exact ⟨c, h _ q⟩
  ok := fun bd e σ G H x y u w Q R rl dx dy q k => by
    rcases gAdd_out q with ⟨i, j, rfl, rfl, q⟩ | ⟨i, j, rfl, rfl, q⟩ | ⟨i, j, rfl, rfl, c, q⟩ | ⟨i, j, rfl, rfl, c, q⟩ | ⟨i, j, rfl, rfl, c, q⟩
    · cases dx
      cases dy
      exact .inl ⟨i, j, rfl, rfl, k _ _ H G q rl .refl (.int _)⟩
    · cases dx
      cases dy
      exact .inr (.inr (.inr (.inr ⟨i, j, rfl, rfl, k _ _ H G q rl .refl (.int _)⟩)))
    · cases dx
      cases dy
      exact .inr (.inl ⟨i, j, rfl, rfl, le_line c.le, k _ _ H G q rl .refl (.str _)⟩)
    · cases dx with
      | @lst a1 xs1 _ h1 h2 =>
        cases dy with
        | @lst a2 xs2 _ h3 h4 =>
          refine .inr (.inr (.inl ⟨a1, a2, xs1, xs2, rfl, rfl, rl.sub _ _ h1, rl.sub _ _ h3, ?_, fun p hp => ?_⟩))
          · rw [h2.len, h4.len]; exact le_line c.le
          · exact k _ _ _ _ q (rl.new hp _) (nxt_laid (rl.gold hp) hp _) (.lst upd_same ((h2.app h4).mono (same_laid (rl.gold hp) _)))
    · cases dx with
      | @tup a1 xs1 _ h1 h2 =>
        cases dy with
        | @tup a2 xs2 _ h3 h4 =>
          refine .inr (.inr (.inr (.inl ⟨a1, a2, _, _, rfl, rfl, (.inl (.inl (rl.sub _ _ h1))), (.inl (.inl (rl.sub _ _ h3))), ?_, fun e0 => ?_, fun _ e0 => ?_, fun _ _ p hp => ?_⟩)))
          · rw [h2.len, h4.len]; exact le_line c.le
          · subst e0
            cases h2
            exact k _ _ H G q rl .refl (.tup h3 h4)
          · subst e0
            cases h4
            refine k _ _ H G q rl .refl ?_
            show Dat _ _ _ (.tuple (_ ++ []))
            rw [List.append_nil]
            exact .tup h1 h2
          · exact k _ _ _ _ q (rl.new hp _) (nxt_laid (rl.gold hp) hp _) (.tup upd_same ((h2.app h4).mono (same_laid (rl.gold hp) _)))
/-- == and != of data without dicts -/
def rEqP (neg : Bool) (K : PySem.W.Frag) : R2 := fun x y H Q => ∃ d e, Dat K H x d ∧ Dat K H y e ∧ d.plain = true ∧ e.plain = true ∧ min d.depth e.depth ≤ 60 ∧ Q (.bl (if neg = true then !PyData.eqv d e else PyData.eqv d e)) H
theorem op_eqP (hu : X.A.units + 64 < cLine) : OpR X (compareOp .Eq) (rEqP false X.K) := fun pins s σ H x y v u Q I rx ry ⟨d, e, hd, he, pd, pe, hm, q⟩ => by
  obtain ⟨as, r1⟩ := Dat.reads I hd pd rx
  obtain ⟨bs, r2⟩ := Dat.reads I he pe ry
  exact SeqAt.eq_plain r1 r2 pd pe (by omega) ⟨.bl _, H, I, rfl, q⟩
theorem op_neP (hu : X.A.units + 64 < cLine) : OpR X (compareOp .NotEq) (rEqP true X.K) := fun pins s σ H x y v u Q I rx ry ⟨d, e, hd, he, pd, pe, hm, q⟩ => by
  obtain ⟨as, r1⟩ := Dat.reads I hd pd rx
  obtain ⟨bs, r2⟩ := Dat.reads I he pe ry
  exact SeqAt.ne_plain r1 r2 pd pe (by omega) ⟨.bl _, H, I, rfl, q⟩
structure EqB (x y : PyData) : Prop where
  px : x.plain = true
  py : y.plain = true
  le : min x.depth y.depth ≤ 60
def gEq (neg : Bool) : G2
  | .d x, .d y, Q => EqB x y ∧ Q (.d (.bool (if neg = true then !PyData.eqv x y else PyData.eqv x y)))
  | _, _, _ => False
theorem gEq_out {neg : Bool} {Q : U → Prop} {u w : U} (q : gEq neg u w Q) : ∃ x y, u = .d x ∧ w = .d y ∧ EqB x y ∧ Q (.d (.bool (if neg = true then !PyData.eqv x y else PyData.eqv x y))) := by
  unfold gEq at q
  split at q
  · exact ⟨_, _, rfl, rfl, q⟩
  · exact q.elim
theorem ok_eq {neg : Bool} : OkR K B (rEqP neg K) (gEq neg) where
  mono := fun u w Q Q' h q => by
    obtain ⟨a, b, rfl, rfl, c, q⟩ := gEq_out q
    exact ⟨c, h _ q⟩
  ok := fun bd e σ G H x y u w Q R rl dx dy q k => by
    obtain ⟨a, b, rfl, rfl, c, q⟩ := gEq_out q
    exact ⟨a, b, Dat.mono rl.sub dx, Dat.mono rl.sub dy, c.px, c.py, c.le, k _ _ H G q rl .refl (.bl _)⟩
/-- is None, is not None -/
def isNone : PyData → Bool
  | .none => true
  | _ => false
def gIsN (neg : Bool) : G2
  | .d x, .d .none, Q => Q (.d (.bool (if neg = true then !isNone x else isNone x)))
  | _, _, _ => False
theorem gIsN_out {neg : Bool} {Q : U → Prop} {u w : U} (q : gIsN neg u w Q) : ∃ x, u = .d x ∧ w = .d .none ∧ Q (.d (.bool (if neg = true then !isNone x else isNone x))) := by
  unfold gIsN at q
  split at q
  · exact ⟨_, rfl, rfl, q⟩
  · exact q.elim
theorem isNone_dat {G : Hp} {v : V} {d : PyData} (h : Dat K G v d) : decide (v = .non) = isNone d := by
  cases h <;> rfl
theorem ok_isN : OkR K B (fun x y H Q => y = .non ∧ Q (.bl (decide (x = .non))) H) (gIsN false) where
  mono := fun u w Q Q' h q => by
    obtain ⟨a, rfl, rfl, q⟩ := gIsN_out q
    exact h _ q
  ok := fun bd e σ G H x y u w Q R rl dx dy q k => by
    obtain ⟨a, rfl, rfl, q⟩ := gIsN_out q
    cases dy
    refine ⟨rfl, ?_⟩
    rw [isNone_dat dx]
    exact k _ _ H G q rl .refl (.bl _)
theorem ok_notN : OkR K B (fun x y H Q => y = .non ∧ Q (.bl (!decide (x = .non))) H) (gIsN true) where
  mono := fun u w Q Q' h q => by
    obtain ⟨a, rfl, rfl, q⟩ := gIsN_out q
    exact h _ q
  ok := fun bd e σ G H x y u w Q R rl dx dy q k => by
    obtain ⟨a, rfl, rfl, q⟩ := gIsN_out q
    cases dy
    refine ⟨rfl, ?_⟩
    rw [isNone_dat dx]
    exact k _ _ H G q rl .refl (.bl _)
end

/-! ### one value, one list -/
section
variable {X : Cx} {B : Bs} {K : PySem.W.Frag} {x a b i : Expr} {m ma mi : M} {ml : ML} {pos p : Pos}
/-- of a value that is an int -/
def onI (Q : Int → Prop) : U → Prop
  | .d (.int i) => Q i
  | _ => False
theorem onI_out {Q : Int → Prop} {u : U} (q : onI Q u) : ∃ i, u = .d (.int i) ∧ Q i := by
  unfold onI at q
  split at q
  · exact ⟨_, rfl, q⟩
  · exact q.elim
theorem onI_mono {Q Q' : Int → Prop} (h : ∀ i, Q i → Q' i) (u : U) (q : onI Q u) : onI Q' u := by
  obtain ⟨i, rfl, q⟩ := onI_out q
  exact h i q
theorem xe_neg (ha : XE X B a m fa) : XE X B (.UnaryOp .USub a pos) (fun e Q => m e (onI fun i => Q (.d (.int (-i))))) fa :=
  ⟨fun e P P' h q => ha.mono e _ _ (onI_mono fun i q => h _ q) q, peW (pe_un un_neg ha.pe) fun σ H Q ⟨e, G, bq, r, h⟩ => ha.go r h fun u q v H1 G1 r1 x1 d1 => by
    obtain ⟨i, rfl, q⟩ := onI_out q
    cases d1
    exact ⟨i, rfl, q _ H1 G1 r1 x1 (.int _)⟩⟩
/-- a[i] of a list or a tuple -/
theorem dats_at {G : Hp} {vs : List V} {ds : List PyData} {i : Int} {d : PyData} (h : Dats K G vs ds) (e : atI ds i = some d) : ∃ v, atI vs i = some v ∧ Dat K G v d := by
  unfold atI at e ⊢
  rw [h.len]
  cases q : ixN ds.length i with
  | none => rw [q] at e; cases e
  | some j =>
    rw [q] at e
    exact h.get e
def gIx (ds : List PyData) (u : U) (Q : U → Prop) : Prop := match u with
  | .d (.int i) => match atI ds i with
    | some d => Q (.d d)
    | none => False
  | _ => False
theorem gIx_out {ds : List PyData} {u : U} {Q : U → Prop} (h : gIx ds u Q) : ∃ i d, u = .d (.int i) ∧ atI ds i = some d ∧ Q (.d d) := by
  unfold gIx at h
  split at h
  · split at h
    · exact ⟨_, _, rfl, by assumption, h⟩
    · cases h
  · cases h
theorem gIx_mk {ds : List PyData} {i : Int} {d : PyData} {Q : U → Prop} (e : atI ds i = some d) (q : Q (.d d)) : gIx ds (.d (.int i)) Q := by
  show (match atI ds i with
    | some d => Q (.d d)
    | none => False)
  rw [e]
  exact q
theorem xe_ix (ha : XL X B a ml fa) (hi : XE X B i mi fi) (hs : PlainIx i := by exact fun _ _ => rfl) : XE X B (.Subscript a i pos) (fun e Q => ml e fun _ ds => mi e fun u => gIx ds u Q) (sq fa fi) :=
  ⟨fun e P P' h q => ha.mono e _ _ (fun k ds q => hi.mono e _ _ (fun u q => by
    obtain ⟨i, d, rfl, h1, q⟩ := gIx_out q
    exact gIx_mk h1 (h _ q)) q) q, peW (pe_ix (ix_list.or ix_tup) ha.pe hi.pe hs) fun σ H Q ⟨e, G, bq, r, h⟩ => ha.go r h fun k ds q v H1 G1 r1 x1 d1 => hi.go r1 q fun u q w H2 G2 r2 x2 d2 => by
    obtain ⟨i, d, rfl, h1, q⟩ := gIx_out q
    cases d2
    obtain ⟨a, vs, rfl, sq, dd⟩ := d1.mono x2.same x2.ext
    obtain ⟨v, h2, h3⟩ := dats_at dd h1
    rcases sq.seq r2.sub with sq | sq
    · exact .inl ⟨a, vs, i, v, rfl, rfl, sq, h2, q v H2 G2 r2 (x1.trans x2) h3⟩
    · exact .inr ⟨a, vs, i, v, rfl, rfl, sq, h2, q v H2 G2 r2 (x1.trans x2) h3⟩⟩
/-- a part of a slice -/
structure XP (X : Cx) (B : Bs) (x : Option Expr) (m : En → (Option Int → Prop) → Prop) (f : Cst) : Prop where
  mono : ∀ e (P P' : Option Int → Prop), (∀ u, P u → P' u) → m e P → m e P'
  po : PO X x fun σ H Q => ∃ e G d, Rel X.K B (f.1 d) e σ G H ∧ m e fun u => ∀ H' G', Rel X.K B d e σ G' H' → Nxt B.pt G H G' H' → Q u H'
theorem xp_none : XP X B none (fun _ Q => Q none) cz := ⟨fun e P P' h q => h _ q, ⟨fun pins s σ H Q I ⟨e, G, bq, r, q⟩ => po_none.run pins s σ H Q I (q H G r .refl)⟩⟩
theorem xp_some (ha : XE X B a m fa) : XP X B (some a) (fun e Q => m e (onI fun i => Q (some i))) fa :=
  ⟨fun e P P' h q => ha.mono e _ _ (onI_mono fun i q => h _ q) q, ⟨fun pins s σ H Q I ⟨e, G, bq, r, h⟩ => (po_some ha.pe).run pins s σ H Q I (ha.go r h fun u q v H1 G1 r1 x1 d1 => by
    obtain ⟨i, rfl, q⟩ := onI_out q
    cases d1
    exact ⟨i, rfl, q H1 G1 r1 x1⟩)⟩⟩
def cutD (xs : List PyData) (lo hi : Option Int) : List PyData := (xs.drop (HT.sIx xs.length 0 lo)).take (HT.sIx xs.length xs.length hi - HT.sIx xs.length 0 lo)
theorem Dats.cut {G : Hp} {vs : List V} {ds : List PyData} (h : Dats K G vs ds) (lo hi : Option Int) : Dats K G (cutV vs lo hi) (cutD ds lo hi) := by
  unfold cutV cutD
  rw [h.len]
  exact (h.drop _).take _
variable {lo hi : Option Expr} {mlo mhi : En → (Option Int → Prop) → Prop} {p2 : Pos}
/-- a[lo:hi] of a list: a new one -/
theorem xo_sl (ha : XL X B a ml fa) (hl : XP X B lo mlo fl) (hh : XP X B hi mhi fh) : XO X B (.Subscript a (.Slice lo hi none p2) pos) (fun e Q => ml e fun k ds => mlo e fun l => mhi e fun u => match k with | .tup => False | _ => Q (cutD ds l u)) (sq fa (sq fl fh)) :=
  ⟨fun e P P' h q => ha.mono e _ _ (fun k ds q => hl.mono e _ _ (fun l q => hh.mono e _ _ (fun u q => by
    cases k with
    | tup => exact q
    | lst => exact h _ q
    | scr => exact h _ q) q) q) q, peW (pe_slice sl_list ha.pe hl.po hh.po) fun σ H Q ⟨e, G, bq, r, h⟩ => ha.go r h fun k ds q v H1 G1 r1 x1 d1 =>
    ⟨e, G1, _, r1, hl.mono e _ _ (fun l q H2 G2 r2 x2 => ⟨e, G2, _, r2, hh.mono e _ _ (fun u q H3 G3 r3 x3 => by
      obtain ⟨a, vs, rfl, sq, dd⟩ := d1.mono (x2.trans x3).same (x2.trans x3).ext
      have fin : SqL X.K H3 a vs → (∀ p vs H' G', Rel X.K B bq e σ G' H' → Nxt B.pt G H G' H' → H p = none → G' p = none → H' p = some (.lst vs) → Dats X.K G' vs (cutD ds l u) → Q (.ref p) H') → rSlL X.K (.ref a) l u H3 Q := fun sq q => by
        refine ⟨a, vs, rfl, sq, fun p hp => ?_⟩
        have xx := x1.trans (x2.trans x3)
        exact q p _ _ _ (r3.laid hp _) (xx.trans (nxt_only hp _)) (ext_both xx.ext hp (r3.nopot hp)) (r3.gold hp) upd_same (dd.cut l u)
      cases k with
      | tup => exact q.elim
      | lst => exact fin (.inl (.inl sq.1)) q
      | scr => exact fin (r3.sub.seq sq) q) q⟩) q⟩⟩
/-- .. of a list or a tuple, as data -/
theorem xe_sl (ha : XL X B a ml fa) (hl : XP X B lo mlo fl) (hh : XP X B hi mhi fh) : XE X B (.Subscript a (.Slice lo hi none p2) pos) (fun e Q => ml e fun k ds => mlo e fun l => mhi e fun u => Q (.d (match k with | .tup => .tuple (cutD ds l u) | _ => .list (cutD ds l u)))) (sq fa (sq fl fh)) :=
  ⟨fun e P P' h q => ha.mono e _ _ (fun k ds q => hl.mono e _ _ (fun l q => hh.mono e _ _ (fun u q => h _ q) q) q) q, peW (pe_slice (sl_list.or sl_tupA) ha.pe hl.po hh.po) fun σ H Q ⟨e, G, bq, r, h⟩ => ha.go r h fun k ds q v H1 G1 r1 x1 d1 =>
    ⟨e, G1, _, r1, hl.mono e _ _ (fun l q H2 G2 r2 x2 => ⟨e, G2, _, r2, hh.mono e _ _ (fun u q H3 G3 r3 x3 => by
      obtain ⟨a, vs, rfl, sq, dd⟩ := d1.mono (x2.trans x3).same (x2.trans x3).ext
      have xx := x1.trans (x2.trans x3)
      have fin : SqL X.K H3 a vs → (∀ v H' G', Rel X.K B bq e σ G' H' → Nxt B.pt G H G' H' → UD X.K B.pt G' v (.d (.list (cutD ds l u))) → Q v H') → rSlL X.K (.ref a) l u H3 Q := fun sq q => by
        refine ⟨a, vs, rfl, sq, fun p hp => ?_⟩
        exact q _ _ _ (r3.new hp _) (xx.trans (nxt_laid (r3.gold hp) hp _)) (.lst upd_same ((dd.cut l u).mono (same_laid (r3.gold hp) _)))
      cases k with
      | lst => exact .inl (fin (.inl (.inl sq.1)) q)
      | scr => exact .inl (fin (r3.sub.seq sq) q)
      | tup =>
        refine .inr ⟨a, vs, rfl, (.inl (.inl (r3.sub _ _ sq))), fun hw => ?_, fun _ p hp => ?_⟩
        · have ec : cutD ds l u = ds := by
            unfold cutD
            rw [← dd.len, hw.1, hw.2, Nat.sub_zero, List.drop_zero, dd.len]
            exact List.take_length
          refine q _ H3 G3 r3 xx ?_
          show Dat _ _ _ (.tuple (cutD ds l u))
          rw [ec]
          exact .tup sq dd
        · exact q _ _ _ (r3.new hp _) (xx.trans (nxt_laid (r3.gold hp) hp _)) (.tup upd_same ((dd.cut l u).mono (same_laid (r3.gold hp) _)))) q⟩) q⟩⟩
end
end Fd

set_option Elab.async false
set_option linter.all false
set_option maxRecDepth 100000
set_option maxHeartbeats 400000
/-! Fd, part F: built-ins, what is walked, a list of one's own. -/
namespace Fd
open PySem PySem.Spec PyProof.Rows L2

/-! ### built-in functions of one value -/
section
variable {X : Cx} {B : Bs} {K : PySem.W.Frag} {a b : Expr} {m ma mb : M} {ml ml' : ML} {pos p : Pos} {x : Str}
theorem one_arg {t : TE} (ha : PE X a t) (hs : starEach [a] X.env = (false, eval a X.env) :: starEach [] X.env) : PA X [a] (tCons t tNil) := pa_cons ha pa_nil hs
theorem two_arg {t t' : TE} (ha : PE X a t) (hb : PE X b t') (hs : starEach [a, b] X.env = (false, eval a X.env) :: starEach [b] X.env) (hs' : starEach [b] X.env = (false, eval b X.env) :: starEach [] X.env) : PA X [a, b] (tCons t (tCons t' tNil)) := pa_cons ha (pa_cons hb pa_nil hs') hs
theorem xe_abs (ha : XE X B a m fa) (hm : X.mg "abs" = none) (hg : Gl X "abs" := by rfl) (hs : starEach [a] X.env = (false, eval a X.env) :: starEach [] X.env := by rfl) (hpl : (backTo pos (starEach [] X.env)).any (·.1) = false := by rfl) :
    XE X B (.Call (.Name "abs" p) [a] [] pos) (fun e Q => m e (onI fun i => Q (.d (.int (if i < 0 then -i else i))))) fa :=
  ⟨fun e P P' h q => ha.mono e _ _ (onI_mono fun i q => h _ q) q, peW (pe_callB call_abs hg hm (by decide +kernel) (one_arg ha.pe hs) (he := hs) (hpl := hpl)) fun σ H Q ⟨e, G, bq, r, h⟩ => ha.go r h fun u q v H1 G1 r1 x1 d1 => by
    obtain ⟨i, rfl, q⟩ := onI_out q
    cases d1
    exact ⟨i, rfl, q _ H1 G1 r1 x1 (.int _)⟩⟩
/-- int of an int, of a truth value -/
def onIB (Q : Int → Prop) : U → Prop
  | .d (.int i) => Q i
  | .d (.bool b) => Q (if b = true then 1 else 0)
  | _ => False
theorem onIB_out {Q : Int → Prop} {u : U} (q : onIB Q u) : (∃ i, u = .d (.int i) ∧ Q i) ∨ ∃ b, u = .d (.bool b) ∧ Q (if b = true then 1 else 0) := by
  unfold onIB at q
  split at q
  · exact .inl ⟨_, rfl, q⟩
  · exact .inr ⟨_, rfl, q⟩
  · exact q.elim
theorem xe_toint (ha : XE X B a m fa) (hm : X.mg "int" = none) (hg : Gl X "int" := by rfl) (hs : starEach [a] X.env = (false, eval a X.env) :: starEach [] X.env := by rfl) (hpl : (backTo pos (starEach [] X.env)).any (·.1) = false := by rfl) :
    XE X B (.Call (.Name "int" p) [a] [] pos) (fun e Q => m e (onIB fun i => Q (.d (.int i)))) fa :=
  ⟨fun e P P' h q => ha.mono e _ _ (fun u q => by
    rcases onIB_out q with ⟨i, rfl, q⟩ | ⟨i, rfl, q⟩
    · exact h _ q
    · exact h _ q) q, peW (pe_callTy call_int1 hg hm (by decide +kernel) (one_arg ha.pe hs) (he := hs) (hpl := hpl)) fun σ H Q ⟨e, G, bq, r, h⟩ => ha.go r h fun u q v H1 G1 r1 x1 d1 => by
    rcases onIB_out q with ⟨i, rfl, q⟩ | ⟨i, rfl, q⟩
    · cases d1
      exact .inl ⟨i, rfl, q _ H1 G1 r1 x1 (.int _)⟩
    · cases d1
      exact .inr ⟨i, rfl, q _ H1 G1 r1 x1 (.int _)⟩⟩
theorem xe_max2 (ha : XE X B a ma fa) (hb : XE X B b mb fb) (hm : X.mg "max" = none) (hg : Gl X "max" := by rfl) (hc : X.calm = true := by rfl) (hs : starEach [a, b] X.env = (false, eval a X.env) :: starEach [b] X.env := by rfl) (hs' : starEach [b] X.env = (false, eval b X.env) :: starEach [] X.env := by rfl)
    (hpl : (backTo pos (starEach [b] X.env)).any (·.1) = false := by rfl) : XE X B (.Call (.Name "max" p) [a, b] [] pos) (fun e Q => ma e fun u => mb e fun w => gI (fun i j Q => Q (.d (.int (max i j)))) u w Q) (sq fa fb) :=
  ⟨fun e P P' h q => ha.mono e _ _ (fun u q => hb.mono e _ _ (fun w q => by
    obtain ⟨i, j, rfl, rfl, q⟩ := gI_out q
    exact h _ q) q) q, peW (pe_callB (call_max2 hc) hg hm (by decide +kernel) (two_arg ha.pe hb.pe hs hs') (he := hs) (hpl := hpl)) fun σ H Q ⟨e, G, bq, r, h⟩ => ha.go r h fun u q v H1 G1 r1 x1 d1 => hb.go r1 q fun w q v2 H2 G2 r2 x2 d2 => by
    obtain ⟨i, j, rfl, rfl, q⟩ := gI_out q
    cases d1
    cases d2
    refine ⟨i, j, rfl, ?_⟩
    have e1 : (if j > i then j else i) = max i j := by
      rw [Int.max_def]; split <;> split <;> omega
    rw [e1]
    exact q _ H2 G2 r2 (x1.trans x2) (.int _)⟩
theorem xe_min2 (ha : XE X B a ma fa) (hb : XE X B b mb fb) (hm : X.mg "min" = none) (hg : Gl X "min" := by rfl) (hc : X.calm = true := by rfl) (hs : starEach [a, b] X.env = (false, eval a X.env) :: starEach [b] X.env := by rfl) (hs' : starEach [b] X.env = (false, eval b X.env) :: starEach [] X.env := by rfl)
    (hpl : (backTo pos (starEach [b] X.env)).any (·.1) = false := by rfl) : XE X B (.Call (.Name "min" p) [a, b] [] pos) (fun e Q => ma e fun u => mb e fun w => gI (fun i j Q => Q (.d (.int (min i j)))) u w Q) (sq fa fb) :=
  ⟨fun e P P' h q => ha.mono e _ _ (fun u q => hb.mono e _ _ (fun w q => by
    obtain ⟨i, j, rfl, rfl, q⟩ := gI_out q
    exact h _ q) q) q, peW (pe_callB (call_min2 hc) hg hm (by decide +kernel) (two_arg ha.pe hb.pe hs hs') (he := hs) (hpl := hpl)) fun σ H Q ⟨e, G, bq, r, h⟩ => ha.go r h fun u q v H1 G1 r1 x1 d1 => hb.go r1 q fun w q v2 H2 G2 r2 x2 d2 => by
    obtain ⟨i, j, rfl, rfl, q⟩ := gI_out q
    cases d1
    cases d2
    refine ⟨i, j, rfl, ?_⟩
    have e1 : (if j < i then j else i) = min i j := by
      rw [Int.min_def]; split <;> split <;> omega
    rw [e1]
    exact q _ H2 G2 r2 (x1.trans x2) (.int _)⟩
/-! ### of a list or a tuple -/
theorem xe_len (ha : XL X B a ml fa) (hm : X.mg "len" = none) (hg : Gl X "len" := by rfl) (hs : starEach [a] X.env = (false, eval a X.env) :: starEach [] X.env := by rfl) (hpl : (backTo pos (starEach [] X.env)).any (·.1) = false := by rfl) :
    XE X B (.Call (.Name "len" p) [a] [] pos) (fun e Q => ml e fun _ ds => Q (.d (.int ds.length))) fa :=
  ⟨fun e P P' h q => ha.mono e _ _ (fun k ds q => h _ q) q, peW (pe_callB call_len_seq hg hm (by decide +kernel) (one_arg ha.pe hs) (he := hs) (hpl := hpl)) fun σ H Q ⟨e, G, bq, r, h⟩ => ha.go r h fun k ds q v H1 G1 r1 x1 d1 => by
    obtain ⟨a, vs, rfl, sq, dd⟩ := d1
    refine ⟨a, vs, rfl, sq.seq r1.sub, ?_⟩
    rw [dd.len]
    exact q _ H1 G1 r1 x1 (.int _)⟩
/-- the ints of a list -/
def intsOf : List PyData → Option (List Int)
  | [] => some []
  | .int i :: ds => (intsOf ds).map (i :: ·)
  | _ :: _ => none
theorem intsOf_map : ∀ ns : List Int, intsOf (ns.map .int) = some ns
  | [] => rfl
  | n :: ns => by
    rw [List.map_cons]
    show (intsOf (ns.map .int)).map (n :: ·) = _
    rw [intsOf_map ns]
    rfl
theorem intsOf_eq : ∀ {ds : List PyData} {ns : List Int}, intsOf ds = some ns → ds = ns.map .int
  | [], ns, h => by cases h; rfl
  | .int i :: ds, ns, h => by
    unfold intsOf at h
    cases q : intsOf ds with
    | none => rw [q] at h; cases h
    | some ms => rw [q] at h; cases h; rw [List.map_cons, intsOf_eq q]
  | .none :: ds, ns, h => by cases h
  | .bool _ :: ds, ns, h => by cases h
  | .str _ :: ds, ns, h => by cases h
  | .list _ :: ds, ns, h => by cases h
  | .tuple _ :: ds, ns, h => by cases h
  | .dict _ :: ds, ns, h => by cases h
def onIs (Q : List Int → Prop) (ds : List PyData) : Prop := match intsOf ds with
  | some ns => Q ns
  | none => False
theorem onIs_out {Q : List Int → Prop} {ds : List PyData} (q : onIs Q ds) : ∃ ns, ds = ns.map .int ∧ Q ns := by
  unfold onIs at q
  split at q
  · exact ⟨_, intsOf_eq (by assumption), q⟩
  · exact q.elim
theorem onIs_mk {Q : List Int → Prop} {ns : List Int} (q : Q ns) : onIs Q (ns.map .int) := by
  unfold onIs
  rw [intsOf_map]
  exact q
theorem onIs_iff {Q : List Int → Prop} {ns : List Int} : onIs Q (ns.map .int) ↔ Q ns := by
  unfold onIs
  rw [intsOf_map]
theorem onIs_mono {Q Q' : List Int → Prop} (h : ∀ i, Q i → Q' i) (u : List PyData) (q : onIs Q u) : onIs Q' u := by
  obtain ⟨i, rfl, q2⟩ := onIs_out q
  exact onIs_mk (h i q2)
/-- sum of ints -/
def rSumA (K : PySem.W.Frag) : List V → Hp → VK → Prop := fun vs H Q => ∃ (a : Addr) (ns : List Int), vs = [V.ref a] ∧ SqT K H a (ns.map V.int) ∧ Q (.int ns.sum) H
theorem cr_sumT (hc : X.calm = true) : CallR X (.builtin "sum") (rSumA X.K) := by
  intro pins s σ H xs us Q I r h
  obtain ⟨a, ns, rfl, hT, q⟩ := h
  have er := Vals.ref1 r
  subst er
  obtain ⟨its, rv, ht, _⟩ := I.tuple hT
  have hi := Vals.ints rv
  obtain ⟨ys, e⟩ := hi.allInts.items
  have hn : numsOf (intItems ys).toList = ns := by rw [← e]; exact hi.numsOf
  rw [nums_intItems] at hn
  rw [e] at ht
  refine PySem.W.ktm_sumG (I.ok.hd hc) (show s.heap.IsTuple a (intItems ys) from ht) fun h' tk t' hk => ?_
  rw [preSum_eq, List.take_of_length_le (by simp), hn]
  exact ⟨.int _, H, I.kept (t' := tk) hk, ⟨_, rfl⟩, q⟩
theorem xe_sum (ha : XL X B a ml fa) (hm : X.mg "sum" = none) (hg : Gl X "sum" := by rfl) (hc : X.calm = true := by rfl) (hs : starEach [a] X.env = (false, eval a X.env) :: starEach [] X.env := by rfl) (hpl : (backTo pos (starEach [] X.env)).any (·.1) = false := by rfl) :
    XE X B (.Call (.Name "sum" p) [a] [] pos) (fun e Q => ml e fun _ ds => onIs (fun ns => Q (.d (.int ns.sum))) ds) fa :=
  ⟨fun e P P' h q => ha.mono e _ _ (fun k ds q => onIs_mono (fun _ q => h _ q) ds q) q, peW (pe_callB ((cr_sum hc).or (cr_sumT hc)) hg hm (by decide +kernel) (one_arg ha.pe hs) (he := hs) (hpl := hpl)) fun σ H Q ⟨e, G, bq, r, h⟩ => ha.go r h fun k ds q v H1 G1 r1 x1 d1 => by
    obtain ⟨ns, rfl, q2⟩ := onIs_out q
    obtain ⟨a, vs, rfl, sq, dd⟩ := d1
    have ev := dd.ints
    subst ev
    have q2 := q2 _ H1 G1 r1 x1 (.int _)
    rcases sq.seq r1.sub with sq | sq
    · exact .inl ⟨a, ns, rfl, sq, q2⟩
    · exact .inr ⟨a, ns, rfl, sq, q2⟩⟩
/-- max, min of ints, a list or a tuple -/
def bigOf (ns : List Int) : Int := ns.tail.foldl max (ns.headD 0)
def leastOf (ns : List Int) : Int := ns.tail.foldl min (ns.headD 0)
theorem reads_ints {h : Heap} : ∀ {us : List Value} {ns : List Int}, IntsAre us ns → ∃ as, ReadsAll h us (ns.map PyData.int) as
  | _, _, .nil => ⟨_, ReadsAll.nil⟩
  | _, _, .cons n t hh => let ⟨as, q⟩ := reads_ints (h := h) hh; ⟨_, ReadsAll.cons (Reads.int n t) q⟩
theorem alike_ints (ns : List Int) : PySem.W.AlikeAll (ns.map PyData.int) := by
  refine ⟨fun x hx y hy => ?_, fun x hx => ?_⟩
  · obtain ⟨i, _, rfl⟩ := List.mem_map.mp hx
    obtain ⟨j, _, rfl⟩ := List.mem_map.mp hy
    simp [PySem.W.alike]
  · obtain ⟨i, _, rfl⟩ := List.mem_map.mp hx
    exact fun z => nomatch z
theorem depth_ints : ∀ ns : List Int, PyData.depthAll (ns.map PyData.int) = 0
  | [] => by simp [PyData.depthAll]
  | n :: ns => by simp [PyData.depthAll, PyData.depth, depth_ints ns]
def rBig (K : PySem.W.Frag) (f : List Int → Int) : List V → Hp → VK → Prop := fun vs H Q => ∃ (a : Addr) (ns : List Int), vs = [V.ref a] ∧ (SqL K H a (ns.map V.int) ∨ SqT K H a (ns.map V.int)) ∧ ns ≠ [] ∧ Q (.int (f ns)) H
theorem cr_big (hc : X.calm = true) (hu : X.A.units + 64 < cLine) : CallR X (.builtin "max") (rBig X.K bigOf) := by
  intro pins s σ H vs us Q I r h
  obtain ⟨a, ns, rfl, hs, hne, q⟩ := h
  have er := Vals.ref1 r
  subst er
  obtain ⟨n, ns, rfl⟩ : ∃ n r, ns = n :: r := by
    cases ns with
    | nil => exact absurd rfl hne
    | cons n r => exact ⟨n, r, rfl⟩
  · have fin : ∀ (v : Value) (h' : Heap) (tk : Nat) (bs : List Addr), Reads h' v (PySem.W.maxD (.int n) (ns.map .int)) bs → (∀ b o, s.heap.get? b = some o → h'.get? b = some o) → EP X pins σ Q v { s with heap := h', toks := tk } := fun v h' tk bs rd hk => by
      rw [PySem.W.maxD_ints] at rd
      cases rd with
      | int i t => exact ⟨.int _, H, I.kept (t' := tk) hk, ⟨_, rfl⟩, q⟩
    have hd : X.A.units + 1 + PyData.depthAll (.int n :: ns.map .int) < cLine := by
      have := depth_ints (n :: ns)
      rw [List.map_cons] at this
      rw [this]; omega
    rcases hs with hs | hs
    · obtain ⟨its, rv, hl, _⟩ := I.list hs
      obtain ⟨as, rd⟩ := reads_ints (h := s.heap) (Vals.ints rv)
      exact PySem.W.max_list_data (I.ok.hd hc) hl.isList rd (alike_ints (n :: ns)) hd fun i v h' tk bs _ rd hk => fin v h' tk bs rd hk
    · obtain ⟨its, rv, hl, _⟩ := I.tuple hs
      obtain ⟨as, rd⟩ := reads_ints (h := s.heap) (Vals.ints rv)
      exact PySem.W.max_tuple_data (I.ok.hd hc) (show s.heap.IsTuple a its.toArray from hl) rd (alike_ints (n :: ns)) hd fun i v h' tk bs _ rd hk => fin v h' tk bs rd hk
theorem cr_least (hc : X.calm = true) (hu : X.A.units + 64 < cLine) : CallR X (.builtin "min") (rBig X.K leastOf) := by
  intro pins s σ H vs us Q I r h
  obtain ⟨a, ns, rfl, hs, hne, q⟩ := h
  have er := Vals.ref1 r
  subst er
  obtain ⟨n, ns, rfl⟩ : ∃ n r, ns = n :: r := by
    cases ns with
    | nil => exact absurd rfl hne
    | cons n r => exact ⟨n, r, rfl⟩
  · have fin : ∀ (v : Value) (h' : Heap) (tk : Nat) (bs : List Addr), Reads h' v (PySem.W.minD (.int n) (ns.map .int)) bs → (∀ b o, s.heap.get? b = some o → h'.get? b = some o) → EP X pins σ Q v { s with heap := h', toks := tk } := fun v h' tk bs rd hk => by
      rw [PySem.W.minD_ints] at rd
      cases rd with
      | int i t => exact ⟨.int _, H, I.kept (t' := tk) hk, ⟨_, rfl⟩, q⟩
    have hd : X.A.units + 1 + PyData.depthAll (.int n :: ns.map .int) < cLine := by
      have := depth_ints (n :: ns)
      rw [List.map_cons] at this
      rw [this]; omega
    rcases hs with hs | hs
    · obtain ⟨its, rv, hl, _⟩ := I.list hs
      obtain ⟨as, rd⟩ := reads_ints (h := s.heap) (Vals.ints rv)
      exact PySem.W.min_list_data (I.ok.hd hc) hl.isList rd (alike_ints (n :: ns)) hd fun i v h' tk bs _ rd hk => fin v h' tk bs rd hk
    · obtain ⟨its, rv, hl, _⟩ := I.tuple hs
      obtain ⟨as, rd⟩ := reads_ints (h := s.heap) (Vals.ints rv)
      exact PySem.W.min_tuple_data (I.ok.hd hc) (show s.heap.IsTuple a its.toArray from hl) rd (alike_ints (n :: ns)) hd fun i v h' tk bs _ rd hk => fin v h' tk bs rd hk
theorem xe_big {nm : Str} {id : String} {f : List Int → Int} (cr : CallR X (.builtin id) (rBig X.K f)) (hv : bootBuiltins nm = some (.builtin id)) (hn : nm ≠ "__name__") (hdb : (nm == ("__debug__" : Str)) = false) (ha : XL X B a ml fa) (hm : X.mg nm = none) (hg : Gl X nm) (hs : starEach [a] X.env = (false, eval a X.env) :: starEach [] X.env) (hpl : (backTo pos (starEach [] X.env)).any (·.1) = false) :
    XE X B (.Call (.Name nm p) [a] [] pos) (fun e Q => ml e fun _ ds => onIs (fun ns => ns ≠ [] ∧ Q (.d (.int (f ns)))) ds) fa :=
  ⟨fun e P P' h q => ha.mono e _ _ (fun k ds q => onIs_mono (fun _ q => ⟨q.1, h _ q.2⟩) ds q) q, peW (pe_callB cr hg hm hv (one_arg ha.pe hs) (hn := hn) (hdb := hdb) (he := hs) (hpl := hpl)) fun σ H Q ⟨e, G, bq, r, h⟩ => ha.go r h fun k ds q v H1 G1 r1 x1 d1 => by
    obtain ⟨ns, rfl, q1, q2⟩ := onIs_out q
    obtain ⟨a, vs, rfl, sq, dd⟩ := d1
    have ev := dd.ints
    subst ev
    exact ⟨a, ns, rfl, sq.seq r1.sub, q1, q2 _ H1 G1 r1 x1 (.int _)⟩⟩
theorem xe_max (hu : X.A.units + 64 < cLine) (ha : XL X B a ml fa) (hm : X.mg "max" = none) (hg : Gl X "max" := by rfl) (hc : X.calm = true := by rfl) (hs : starEach [a] X.env = (false, eval a X.env) :: starEach [] X.env := by rfl) (hpl : (backTo pos (starEach [] X.env)).any (·.1) = false := by rfl) :
    XE X B (.Call (.Name "max" p) [a] [] pos) (fun e Q => ml e fun _ ds => onIs (fun ns => ns ≠ [] ∧ Q (.d (.int (bigOf ns)))) ds) fa := xe_big (cr_big hc hu) (by decide +kernel) (by decide) (by decide) ha hm hg hs hpl
theorem xe_min (hu : X.A.units + 64 < cLine) (ha : XL X B a ml fa) (hm : X.mg "min" = none) (hg : Gl X "min" := by rfl) (hc : X.calm = true := by rfl) (hs : starEach [a] X.env = (false, eval a X.env) :: starEach [] X.env := by rfl) (hpl : (backTo pos (starEach [] X.env)).any (·.1) = false := by rfl) :
    XE X B (.Call (.Name "min" p) [a] [] pos) (fun e Q => ml e fun _ ds => onIs (fun ns => ns ≠ [] ∧ Q (.d (.int (leastOf ns)))) ds) fa := xe_big (cr_least hc hu) (by decide +kernel) (by decide) (by decide) ha hm hg hs hpl
/-- sorted of ints: a new list -/
theorem xo_sorted (ha : XL X B a ml fa) (hm : X.mg "sorted" = none) (hg : Gl X "sorted" := by rfl) (hs : starEach [a] X.env = (false, eval a X.env) :: starEach [] X.env := by rfl) (hpl : (backTo pos (starEach [] X.env)).any (·.1) = false := by rfl) :
    XO X B (.Call (.Name "sorted" p) [a] [] pos) (fun e Q => ml e fun k ds => onIs (fun ns => k ≠ .tup ∧ ∀ ns' : List Int, ns'.Perm ns → ns'.Pairwise (· ≤ ·) → Q (ns'.map .int)) ds) fa :=
  ⟨fun e P P' h q => ha.mono e _ _ (fun k ds q => onIs_mono (fun _ q => ⟨q.1, fun ns' h1 h2 => h _ (q.2 ns' h1 h2)⟩) ds q) q, peW (pe_callB cr_sortedI hg hm (by decide +kernel) (one_arg ha.pe hs) (he := hs) (hpl := hpl)) fun σ H Q ⟨e, G, bq, r, h⟩ => ha.go r h fun k ds q v H1 G1 r1 x1 d1 => by
    obtain ⟨ns, rfl, q1, q2⟩ := onIs_out q
    obtain ⟨a, vs, rfl, sq, dd⟩ := d1
    have ev := dd.ints
    subst ev
    have sl : SqL X.K H1 a (ns.map V.int) := by
      cases k with
      | tup => exact absurd rfl q1
      | lst => exact .inl (.inl sq.1)
      | scr => exact r1.sub.seq sq
    refine ⟨a, ns, rfl, sl, fun ns' p h1 h2 hp => ?_⟩
    exact q2 ns' h1 h2 p _ _ _ (r1.laid hp _) (x1.trans (nxt_only hp _)) (ext_both x1.ext hp (r1.nopot hp)) (r1.gold hp) upd_same (dats_ints ns')⟩
theorem xe_tuple (ha : XL X B a ml fa) (hm : X.mg "tuple" = none) (hg : Gl X "tuple" := by rfl) (hs : starEach [a] X.env = (false, eval a X.env) :: starEach [] X.env := by rfl) (hpl : (backTo pos (starEach [] X.env)).any (·.1) = false := by rfl) :
    XE X B (.Call (.Name "tuple" p) [a] [] pos) (fun e Q => ml e fun _ ds => Q (.d (.tuple ds))) fa :=
  ⟨fun e P P' h q => ha.mono e _ _ (fun k ds q => h _ q) q, peW (pe_callTy call_tuple_of hg hm (by decide +kernel) (one_arg ha.pe hs) (he := hs) (hpl := hpl)) fun σ H Q ⟨e, G, bq, r, h⟩ => ha.go r h fun k ds q v H1 G1 r1 x1 d1 => by
    obtain ⟨a, vs, rfl, sq, dd⟩ := d1
    have new : SqL X.K H1 a vs → (SqL X.K H1 a vs ∧ ∀ l, H1 l = none → Q (.ref l) (upd H1 l (.tup vs))) := fun sl => ⟨sl, fun p hp => q _ _ _ (r1.new hp _) (x1.trans (nxt_laid (r1.gold hp) hp _)) (.tup upd_same (dd.mono (same_laid (r1.gold hp) _)))⟩
    refine ⟨a, vs, rfl, ?_⟩
    cases k with
    | tup => exact .inr ⟨.inl (.inl (r1.sub _ _ sq)), q _ H1 G1 r1 x1 (.tup sq dd)⟩
    | lst => exact .inl (new (.inl (.inl sq.1)))
    | scr => exact .inl (new (r1.sub.seq sq))⟩
theorem xo_list (ha : XL X B a ml fa) (hm : X.mg "list" = none) (hg : Gl X "list" := by rfl) (hs : starEach [a] X.env = (false, eval a X.env) :: starEach [] X.env := by rfl) (hpl : (backTo pos (starEach [] X.env)).any (·.1) = false := by rfl) :
    XO X B (.Call (.Name "list" p) [a] [] pos) (fun e Q => ml e fun _ ds => Q ds) fa :=
  ⟨fun e P P' h q => ha.mono e _ _ (fun k ds q => h _ q) q, peW (pe_callTy call_list_of hg hm (by decide +kernel) (one_arg ha.pe hs) (he := hs) (hpl := hpl)) fun σ H Q ⟨e, G, bq, r, h⟩ => ha.go r h fun k ds q v H1 G1 r1 x1 d1 => by
    obtain ⟨a, vs, rfl, sq, dd⟩ := d1
    refine ⟨a, vs, rfl, sq.seq r1.sub, fun p hp => ?_⟩
    exact q p vs _ _ (r1.laid hp _) (x1.trans (nxt_only hp _)) (ext_both x1.ext hp (r1.nopot hp)) (r1.gold hp) upd_same dd⟩
/-- the truth values of a list -/
def blsOf : List PyData → Option (List Bool)
  | [] => some []
  | .bool i :: ds => (blsOf ds).map (i :: ·)
  | _ :: _ => none
theorem blsOf_map : ∀ ns : List Bool, blsOf (ns.map .bool) = some ns
  | [] => rfl
  | n :: ns => by
    rw [List.map_cons]
    show (blsOf (ns.map .bool)).map (n :: ·) = _
    rw [blsOf_map ns]
    rfl
theorem blsOf_eq : ∀ {ds : List PyData} {ns : List Bool}, blsOf ds = some ns → ds = ns.map .bool
  | [], ns, h => by cases h; rfl
  | .bool i :: ds, ns, h => by
    unfold blsOf at h
    cases q : blsOf ds with
    | none => rw [q] at h; cases h
    | some ms => rw [q] at h; cases h; rw [List.map_cons, blsOf_eq q]
  | .none :: ds, ns, h => by cases h
  | .int _ :: ds, ns, h => by cases h
  | .str _ :: ds, ns, h => by cases h
  | .list _ :: ds, ns, h => by cases h
  | .tuple _ :: ds, ns, h => by cases h
  | .dict _ :: ds, ns, h => by cases h
def onBs (Q : List Bool → Prop) (ds : List PyData) : Prop := match blsOf ds with
  | some ns => Q ns
  | none => False
theorem onBs_out {Q : List Bool → Prop} {ds : List PyData} (q : onBs Q ds) : ∃ ns, ds = ns.map .bool ∧ Q ns := by
  unfold onBs at q
  split at q
  · exact ⟨_, blsOf_eq (by assumption), q⟩
  · exact q.elim
theorem onBs_iff {Q : List Bool → Prop} {ns : List Bool} : onBs Q (ns.map .bool) ↔ Q ns := by
  unfold onBs
  rw [blsOf_map]
theorem onBs_mono {Q Q' : List Bool → Prop} (h : ∀ i, Q i → Q' i) (u : List PyData) (q : onBs Q u) : onBs Q' u := by
  obtain ⟨i, rfl, q2⟩ := onBs_out q
  exact onBs_iff.mpr (h i q2)
theorem xe_allany {nm : Str} {id : String} {f : List Bool → Bool} (cr : CallR X (.builtin id) (fun vs H Q => ∃ (a : Addr) (bs : List Bool), vs = [V.ref a] ∧ SqL X.K H a (bs.map V.bl) ∧ Q (.bl (f bs)) H)) (hv : bootBuiltins nm = some (.builtin id)) (hn : nm ≠ "__name__") (hdb : (nm == ("__debug__" : Str)) = false) (ha : XL X B a ml fa) (hm : X.mg nm = none) (hg : Gl X nm) (hs : starEach [a] X.env = (false, eval a X.env) :: starEach [] X.env) (hpl : (backTo pos (starEach [] X.env)).any (·.1) = false) :
    XE X B (.Call (.Name nm p) [a] [] pos) (fun e Q => ml e fun k ds => onBs (fun ns => k ≠ .tup ∧ Q (.d (.bool (f ns)))) ds) fa :=
  ⟨fun e P P' h q => ha.mono e _ _ (fun k ds q => onBs_mono (fun _ q => ⟨q.1, h _ q.2⟩) ds q) q, peW (pe_callB cr hg hm hv (one_arg ha.pe hs) (hn := hn) (hdb := hdb) (he := hs) (hpl := hpl)) fun σ H Q ⟨e, G, bq, r, h⟩ => ha.go r h fun k ds q v H1 G1 r1 x1 d1 => by
    obtain ⟨ns, rfl, q1, q2⟩ := onBs_out q
    obtain ⟨a, vs, rfl, sq, dd⟩ := d1
    have ev := dd.bls
    subst ev
    have sl : SqL X.K H1 a (ns.map V.bl) := by
      cases k with
      | tup => exact absurd rfl q1
      | lst => exact .inl (.inl sq.1)
      | scr => exact r1.sub.seq sq
    exact ⟨a, ns, rfl, sl, q2 _ H1 G1 r1 x1 (.bl _)⟩⟩
theorem xe_all (ha : XL X B a ml fa) (hm : X.mg "all" = none) (hg : Gl X "all" := by rfl) (hc : X.calm = true := by rfl) (hs : starEach [a] X.env = (false, eval a X.env) :: starEach [] X.env := by rfl) (hpl : (backTo pos (starEach [] X.env)).any (·.1) = false := by rfl) :
    XE X B (.Call (.Name "all" p) [a] [] pos) (fun e Q => ml e fun k ds => onBs (fun ns => k ≠ .tup ∧ Q (.d (.bool (ns.all id)))) ds) fa := xe_allany (cr_all hc) (by decide +kernel) (by decide) (by decide) ha hm hg hs hpl
theorem xe_any (ha : XL X B a ml fa) (hm : X.mg "any" = none) (hg : Gl X "any" := by rfl) (hc : X.calm = true := by rfl) (hs : starEach [a] X.env = (false, eval a X.env) :: starEach [] X.env := by rfl) (hpl : (backTo pos (starEach [] X.env)).any (·.1) = false := by rfl) :
    XE X B (.Call (.Name "any" p) [a] [] pos) (fun e Q => ml e fun k ds => onBs (fun ns => k ≠ .tup ∧ Q (.d (.bool (ns.any id)))) ds) fa := xe_allany (cr_any hc) (by decide +kernel) (by decide) (by decide) ha hm hg hs hpl
/-- repr of data -/
structure Shows (x : PyData) : Prop where
  plain : x.plain = true
  able : x.showable = true
  deep : x.depth ≤ 60
  size : x.shown.length ≤ 1000000
theorem plain_noDict : ∀ d : PyData, d.plain = true → d.hasDict = false
  | .none, _ => by simp only [PyData.hasDict]
  | .bool _, _ => by simp only [PyData.hasDict]
  | .int _, _ => by simp only [PyData.hasDict]
  | .str _, _ => by simp only [PyData.hasDict]
  | .list xs, h => by
    simp only [PyData.hasDict]
    have all : ∀ xs : List PyData, PyData.plainAll xs = true → (∀ x ∈ xs, x.plain = true → x.hasDict = false) → PyData.hasDictAll xs = false := fun xs => by
      induction xs with
      | nil => intro _ _; simp only [PyData.hasDictAll]
      | cons y ys ih =>
        intro hp hh
        simp only [PyData.plainAll, Bool.and_eq_true] at hp
        simp only [PyData.hasDictAll, hh y List.mem_cons_self hp.1, ih hp.2 fun x hx => hh x (List.mem_cons_of_mem _ hx), Bool.or_self]
    exact all xs (by simpa only [PyData.plain] using h) fun x hx => plain_noDict x
  | .tuple xs, h => by
    simp only [PyData.hasDict]
    have all : ∀ xs : List PyData, PyData.plainAll xs = true → (∀ x ∈ xs, x.plain = true → x.hasDict = false) → PyData.hasDictAll xs = false := fun xs => by
      induction xs with
      | nil => intro _ _; simp only [PyData.hasDictAll]
      | cons y ys ih =>
        intro hp hh
        simp only [PyData.plainAll, Bool.and_eq_true] at hp
        simp only [PyData.hasDictAll, hh y List.mem_cons_self hp.1, ih hp.2 fun x hx => hh x (List.mem_cons_of_mem _ hx), Bool.or_self]
    exact all xs (by simpa only [PyData.plain] using h) fun x hx => plain_noDict x
  | .dict _, h => by simp [PyData.plain] at h
def onShow (Q : PyData → Prop) : U → Prop
  | .d x => Shows x ∧ Q x
  | _ => False
theorem onShow_out {Q : PyData → Prop} {u : U} (q : onShow Q u) : ∃ x, u = .d x ∧ Shows x ∧ Q x := by
  unfold onShow at q
  split at q
  · exact ⟨_, rfl, q⟩
  · exact q.elim
def rRepr (K : PySem.W.Frag) : List V → Hp → VK → Prop := fun vs H Q => ∃ (v : V) (x : PyData), vs = [v] ∧ Dat K H v x ∧ Shows x ∧ Q (.str x.shown) H
theorem cr_repr (hu : X.A.units + 64 < cLine) (hgd : X.A.guards = some []) : CallR X (.builtin "repr") (rRepr X.K) := by
  intro pins s σ H vs us Q I r h
  obtain ⟨v, x, rfl, d, sh, q⟩ := h
  obtain ⟨u, rfl, rv⟩ := vals1 r
  obtain ⟨as, rd⟩ := Dat.reads I d sh.plain rv
  have hz : x.shown.length ≤ sizeLine := le_line sh.size
  have hd := plain_noDict x sh.plain
  have fin : ∀ (h' : Heap) (u : Tok) (tk : Nat), (∀ b o, s.heap.get? b = some o → h'.get? b = some o) → EP X pins σ Q (.str x.shown u) { s with heap := h', toks := tk } := fun h' u tk hk => ⟨.str _, H, I.kept (t' := tk) hk, ⟨_, rfl⟩, q⟩
  cases rd with
  | none => exact PySem.P.repr_of_none (by have := fin s.heap s.toks (s.toks + 1) (fun _ _ e => e); simpa only [PyData.shown] using this)
  | bool b => exact PySem.P.repr_of_bool (by have := fin s.heap s.toks (s.toks + 1) (fun _ _ e => e); simpa only [PyData.shown] using this)
  | int i t => exact PySem.P.repr_of_int (by simpa [PyData.showable] using sh.able) (by have := fin s.heap s.toks (s.toks + 1) (fun _ _ e => e); simpa only [PyData.shown] using this)
  | str y t => exact PySem.P.repr_of_str (by have := fin s.heap s.toks (s.toks + 1) (fun _ _ e => e); simpa only [PyData.shown] using this) (by simpa only [PyData.shown] using hz)
  | list h1 h2 h3 h4 => exact repr_of_reads' (Reads.list h1 h2 h3 h4) sh.able (fun e => by rw [hd] at e; cases e) hgd (by have := sh.deep; omega) (fun _ _ e => e) (fun h' u tk hk => fin h' u tk hk) hz
  | tuple h1 h2 h3 h4 => exact repr_of_reads' (Reads.tuple h1 h2 h3 h4) sh.able (fun e => by rw [hd] at e; cases e) hgd (by have := sh.deep; omega) (fun _ _ e => e) (fun h' u tk hk => fin h' u tk hk) hz
  | dict h1 h2 h3 h4 h5 => simp [PyData.hasDict] at hd
theorem xe_repr (hu : X.A.units + 64 < cLine) (hgd : X.A.guards = some []) (ha : XE X B a m fa) (hm : X.mg "repr" = none) (hg : Gl X "repr" := by rfl) (hs : starEach [a] X.env = (false, eval a X.env) :: starEach [] X.env := by rfl) (hpl : (backTo pos (starEach [] X.env)).any (·.1) = false := by rfl) :
    XE X B (.Call (.Name "repr" p) [a] [] pos) (fun e Q => m e (onShow fun x => Q (.d (.str x.shown)))) fa :=
  ⟨fun e P P' h q => ha.mono e _ _ (fun u q => by
    obtain ⟨x, rfl, q1, q2⟩ := onShow_out q
    exact ⟨q1, h _ q2⟩) q, peW (pe_callB (cr_repr hu hgd) hg hm (by decide +kernel) (one_arg ha.pe hs) (he := hs) (hpl := hpl)) fun σ H Q ⟨e, G, bq, r, h⟩ => ha.go r h fun u q v H1 G1 r1 x1 d1 => by
    obtain ⟨x, rfl, q1, q2⟩ := onShow_out q
    exact ⟨v, x, rfl, Dat.mono r1.sub d1, q1, q2 _ H1 G1 r1 x1 (.str _)⟩⟩
end
end Fd

set_option Elab.async false
set_option linter.all false
set_option maxRecDepth 100000
set_option maxHeartbeats 400000
/-! Fd, part G: what is walked; lists of one's own. -/
namespace Fd
open PySem PySem.Spec PyProof.Rows L2

/-! ### sequences that stay -/
def SqG (K : PySem.W.Frag) (G : Hp) (v : V) (k : Kd) (ds : List PyData) : Prop := ∃ a vs, v = .ref a ∧ (match k with | .tup => G a = some (.tup vs) | .lst => G a = some (.lst vs) | .scr => SqL K G a vs) ∧ Dats K G vs ds
def tMQ (K : PySem.W.Frag) (B : Bs) (m : ML) (f : Cst) : TE := fun σ H Q => ∃ e G d, Rel K B (f.1 d) e σ G H ∧ m e fun k ds => ∀ v H' G', Rel K B d e σ G' H' → Nxt B.pt G H G' H' → SqG K G' v k ds → Q v H'
structure XQ (X : Cx) (B : Bs) (x : Expr) (m : ML) (f : Cst) : Prop where
  mono : ∀ e (P P' : Kd → List PyData → Prop), (∀ k u, P k u → P' k u) → m e P → m e P'
  pe : PE X x (tMQ X.K B m f)
theorem SqG.mono {K : PySem.W.Frag} {G G' : Hp} {v : V} {k : Kd} {ds : List PyData} (h : SqG K G v k ds) (s : Same G G') : SqG K G' v k ds := by
  obtain ⟨a, vs, e, q, d⟩ := h
  refine ⟨a, vs, e, ?_, d.mono s⟩
  cases k with
  | tup => exact s a _ q
  | lst => exact s a _ q
  | scr => exact s.seq q
section
variable {X : Cx} {B : Bs} {K : PySem.W.Frag} {x a b tg : Expr} {m : M} {ml ml' : ML} {p pos tpos : Pos}
theorem XQ.go {e : En} {σ : L2.St} {G H : Hp} {P : Kd → List PyData → Prop} {Q : VK} (h : XQ X B x ml f) (r : Rel X.K B (f.1 bd) e σ G H) (hm : ml e P)
    (hq : ∀ k ds, P k ds → ∀ v H' G', Rel X.K B bd e σ G' H' → Nxt B.pt G H G' H' → SqG X.K G' v k ds → Q v H') : tMQ X.K B ml f σ H Q := ⟨e, G, _, r, h.mono e P _ hq hm⟩
theorem sqG_out {G : Hp} {pt : Pt} {Q : Kd → List PyData → Prop} {v : V} : ∀ {u : U}, onSq Q u → UD K pt G v u → ∃ k ds, SqG K G v k ds ∧ Q k ds
  | .d (.list ds), q, d => by
    cases d with
    | lst s t => exact ⟨.lst, ds, ⟨_, _, rfl, s, t⟩, q⟩
  | .d (.tuple ds), q, d => by
    cases d with
    | tup s t => exact ⟨.tup, ds, ⟨_, _, rfl, s, t⟩, q⟩
  | .scr ds, q, d => by
    obtain ⟨a, xs, e1, s, t⟩ := d
    exact ⟨.scr, ds, ⟨_, _, e1, s, t⟩, q⟩
theorem xq_e (h : XE X B x m f) : XQ X B x (fun e Q => m e (onSq Q)) f :=
  ⟨fun e P P' hh q => h.mono e _ _ (fun us q => onSq_mono hh q) q, peW h.pe fun σ H Q ⟨e, G, bq, r, hh⟩ => h.go r hh fun u q v H1 G1 r1 x1 d1 => by
    obtain ⟨k, ds, d, q⟩ := sqG_out q d1
    exact q v H1 G1 r1 x1 d⟩
/-- a list or a tuple that is walked, whichever it is -/
def iSeq (K : PySem.W.Frag) (tl : TE) : TI := fun σ H R => tl σ H fun x H1 => ∃ a, x = .ref a ∧ (((∃ xs, SqL K H1 a xs) ∧ R (Itl K a) H1) ∨ ((∃ xs, SqT K H1 a xs) ∧ R (Itt K a) H1))
theorem pi_seq {tl : TE} (hl : PE X x tl) : PI X tg x (iSeq X.K tl) := by
  refine ⟨fun pins s σ H R I h => ?_⟩
  refine thn (hl.run pins s σ H _ I h) fun v s1 ⟨y, H1, I1, r1, q1⟩ => ?_
  obtain ⟨a, e1, q1⟩ := q1
  subst e1
  have ev : v = Value.ref a := r1
  subst ev
  have fp : ∀ c ∈ [s1.heap.objs.size], FpOk X pins H1 c := fun c hc => by
    have e2 := List.mem_singleton.mp hc
    subst e2
    exact I1.fpOk (Nat.le_refl _) (I1.hok.fresh (Nat.le_refl _))
  have kept : ∀ o : Obj, Inv X pins σ H1 { s1 with heap := s1.heap.push o } := fun o => I1.kept (t' := s1.toks) fun c u e => Heap.get?_push_of_some _ e
  rcases q1 with ⟨⟨xs, hq⟩, q⟩ | ⟨⟨xs, hq⟩, q⟩
  · obtain ⟨its, rv, pl, _⟩ := I1.list hq
    exact wpAny_pyIter_list pl.isList ⟨_, [s1.heap.objs.size], _, _, H1, rfl, kept _, turn_list a _, ⟨_, Heap.get?_push_size _ rfl, rfl, rfl⟩, fp, q⟩
  · obtain ⟨its, rv, pl, _⟩ := I1.tuple hq
    exact wpAny_pyIter_tuple (show s1.heap.IsTuple a its.toArray from pl) ⟨_, [s1.heap.objs.size], _, _, H1, rfl, kept _, turn_tuple a _, ⟨_, Heap.get?_push_size _ rfl, rfl, rfl⟩, fp, q⟩
theorem wk_list {G : Hp} {a : Addr} {vs : List V} {ds : List PyData} {C : Hp → Prop} (h : ∀ H, C H → SqL K H a vs) (d : Dats K G vs ds) : WkD K G (Itl K a) ds C := by
  refine ⟨_, by rw [← d.len]; exact walk_list.mono h fun i H x H' _ _ y => y, fun i H x H' dd _ y e => ?_⟩
  obtain ⟨w, h1, h2⟩ := d.get e
  rw [y.2] at h1; cases h1
  exact .inl ⟨y.1, h2⟩
theorem wk_tup {G : Hp} {a : Addr} {vs : List V} {ds : List PyData} {C : Hp → Prop} (h : ∀ H, C H → SqT K H a vs) (d : Dats K G vs ds) : WkD K G (Itt K a) ds C := by
  refine ⟨_, by rw [← d.len]; exact walk_tup.mono h fun i H x H' _ _ y => y, fun i H x H' dd _ y e => ?_⟩
  obtain ⟨w, h1, h2⟩ := d.get e
  rw [y.2] at h1; cases h1
  exact .inl ⟨y.1, h2⟩
/-- a sequence as what a comprehension walks: it may be one's own -/
theorem SqD.at {pt : Pt} {G H : Hp} {v : V} {k : Kd} {ds : List PyData} (h : SqD K pt G H v k ds) (sub : Same G H) (gp : ∀ a ∈ pt.pots, G a = none) : ∃ a vs, v = .ref a ∧ Dats K G vs ds ∧ ((∀ H', Ext pt H H' → SqL K H' a vs) ∨ ∀ H', Ext pt H H' → SqT K H' a vs) := by
  obtain ⟨a, vs, e, s, d⟩ := h
  have sg : ∀ H', Ext pt H H' → Same G H' := fun H' x c o g => x c o (sub c o g) fun hp => by rw [gp c hp] at g; cases g
  refine ⟨a, vs, e, d, ?_⟩
  cases k with
  | tup => exact .inr fun H' x => .inl (.inl (sg H' x _ _ s))
  | lst => exact .inl fun H' x => .inl (.inl (x a _ s.1 s.2))
  | scr => exact .inl fun H' x => (sg H' x).seq s
theorem xi_seq (h : XL X B x ml f) : XI X B tg x (fun e Q => ml e fun _ ds => Q ds) f :=
  ⟨fun e P P' hh q => h.mono e _ _ (fun k ds q => hh _ q) q, piW (pi_seq h.pe) fun σ H R ⟨e, G, bq, r, hh⟩ => h.go r hh fun k ds q v H1 G1 r1 x1 d1 => by
    obtain ⟨a, vs, e1, dd, w⟩ := d1.at r1.sub r1.gpot
    refine ⟨a, e1, ?_⟩
    rcases w with w | w
    · exact .inl ⟨⟨vs, w H1 .refl⟩, q _ H1 G1 r1 x1 (wk_list w dd)⟩
    · exact .inr ⟨⟨vs, w H1 .refl⟩, q _ H1 G1 r1 x1 (wk_tup w dd)⟩⟩
theorem SqG.at {G : Hp} {v : V} {k : Kd} {ds : List PyData} (h : SqG K G v k ds) : ∃ a vs, v = .ref a ∧ Dats K G vs ds ∧ ((∀ H', Same G H' → SqL K H' a vs) ∨ ∀ H', Same G H' → SqT K H' a vs) := by
  obtain ⟨a, vs, e, s, d⟩ := h
  refine ⟨a, vs, e, d, ?_⟩
  cases k with
  | tup => exact .inr fun H' x => .inl (.inl (x _ _ s))
  | lst => exact .inl fun H' x => .inl (.inl (x a _ s))
  | scr => exact .inl fun H' x => x.seq s
theorem xf_seq (h : XQ X B x ml f) : XF X B tg x (fun e Q => ml e fun _ ds => Q ds) f :=
  ⟨fun e P P' hh q => h.mono e _ _ (fun k ds q => hh _ q) q, piW (pi_seq h.pe) fun σ H R ⟨e, G, bq, r, hh⟩ => h.go r hh fun k ds q v H1 G1 r1 x1 d1 => by
    obtain ⟨a, vs, e1, dd, w⟩ := d1.at
    refine ⟨a, e1, ?_⟩
    rcases w with w | w
    · exact .inl ⟨⟨vs, w H1 r1.sub⟩, q _ H1 G1 r1 x1 (wk_list w dd)⟩
    · exact .inr ⟨⟨vs, w H1 r1.sub⟩, q _ H1 G1 r1 x1 (wk_tup w dd)⟩⟩
/-- range -/
def rngD (lo hi : Int) : List PyData := (List.range (hi - lo).toNat).map fun i => .int (lo + (i : Nat))
structure RgB (i : Int) : Prop where
  lo : -(2 ^ 62) ≤ i
  hi : i < 2 ^ 62
theorem wk_range {G : Hp} {lo : Int} {n : Nat} {C : Hp → Prop} : WkD K G (Itr lo n) ((List.range n).map fun i => .int (lo + (i : Nat))) C := by
  refine ⟨_, by rw [List.length_map, List.length_range]; exact (walk_range (lo := lo) (n := n)).mono (fun _ _ => trivial) fun i H x H' _ _ y => y, fun i H x H' dd _ y e => ?_⟩
  rw [List.getElem?_map] at e
  cases q : (List.range n)[i]? with
  | none => rw [q] at e; cases e
  | some j =>
    rw [q] at e
    cases e
    obtain ⟨h1, h2⟩ := y
    have hj := List.getElem?_eq_some_iff.mp q
    obtain ⟨hlt, hj⟩ := hj
    rw [List.getElem_range] at hj
    subst hj
    exact .inl ⟨h1, by rw [h2]; exact .int _⟩
theorem xf_range1 (ha : XE X B a m fa) (hm : X.mg "range" = none) (hg : Gl X "range" := by rfl) (hs : starEach [a] X.env = [(false, eval a X.env)] := by rfl) (hs2 : starEach [a] X.env = (false, eval a X.env) :: starEach [] X.env := by rfl) : XF X B tg (.Call (.Name "range" p) [a] [] pos) (fun e Q => m e (onI fun j => RgB j ∧ Q (rngD 0 j))) fa :=
  ⟨fun e P P' hh q => ha.mono e _ _ (onI_mono fun i q => ⟨q.1, hh _ q.2⟩) q, piW (pi_range1 hg hm (one_arg ha.pe hs2) hs) fun σ H R ⟨e, G, bq, r, hh⟩ => ha.go r hh fun u q v H1 G1 r1 x1 d1 => by
    obtain ⟨j, rfl, q1, q2⟩ := onI_out q
    cases d1
    refine ⟨j, rfl, q1.lo, q1.hi, q2 _ H1 G1 r1 x1 ?_⟩
    have := wk_range (K := X.K) (G := G1) (lo := 0) (n := j.toNat) (C := fun H2 => Same G1 H2)
    unfold rngD
    rw [Int.sub_zero]
    exact this⟩
theorem xf_range2 {mb : M} (ha : XE X B a m fa) (hb : XE X B b mb fb) (hm : X.mg "range" = none) (hg : Gl X "range" := by rfl) (hs : starEach [a, b] X.env = [(false, eval a X.env), (false, eval b X.env)] := by rfl) (hs1 : starEach [b] X.env = [(false, eval b X.env)] := by rfl)
    (hs2 : starEach [a, b] X.env = (false, eval a X.env) :: starEach [b] X.env := by rfl) (hs3 : starEach [b] X.env = (false, eval b X.env) :: starEach [] X.env := by rfl) :
    XF X B tg (.Call (.Name "range" p) [a, b] [] pos) (fun e Q => m e fun u => mb e fun w => onI (fun i => onI (fun j => RgB i ∧ RgB j ∧ Q (rngD i j)) w) u) (sq fa fb) :=
  ⟨fun e P P' hh q => ha.mono e _ _ (fun u q => hb.mono e _ _ (fun w q => onI_mono (fun i q => onI_mono (fun j q => ⟨q.1, q.2.1, hh _ q.2.2⟩) w q) u q) q) q, piW (pi_range2 hg hm (two_arg ha.pe hb.pe hs2 hs3) hs hs1) fun σ H R ⟨e, G, bq, r, hh⟩ => ha.go r hh fun u q v H1 G1 r1 x1 d1 => hb.go r1 q fun w q v2 H2 G2 r2 x2 d2 => by
    obtain ⟨i, rfl, q5⟩ := onI_out q
    obtain ⟨j, rfl, q1, q2, q3⟩ := onI_out q5
    cases d1
    cases d2
    exact ⟨i, j, rfl, ⟨q1.lo, q1.hi, q2.lo, q2.hi⟩, q3 _ H2 G2 r2 (x1.trans x2) wk_range⟩⟩
/-- zip of two lists, or of two tuples -/
def zipD (ds es : List PyData) : List PyData := (ds.zip es).map fun p => .tuple [p.1, p.2]
theorem zipD_len (ds es : List PyData) : (zipD ds es).length = min ds.length es.length := by
  unfold zipD
  rw [List.length_map, List.length_zip]
theorem yld_pair {G H H' : Hp} {vs ws : List V} {ds es : List PyData} {i : Nat} {x : V} {d : PyData} (h1 : Dats K G vs ds) (h2 : Dats K G ws es) (y : YPair (fun i => vs[i]?) (fun i => ws[i]?) i H x H') (e : (zipD ds es)[i]? = some d) : Yld K G H x H' d := by
  obtain ⟨T, u, w, e1, e2, e3, e4, e5⟩ := y
  unfold zipD at e
  rw [List.getElem?_map] at e
  cases q : (ds.zip es)[i]? with
  | none => rw [q] at e; cases e
  | some pr =>
    rw [q] at e
    cases e
    rw [List.getElem?_zip_eq_some] at q
    obtain ⟨u', k1, k2⟩ := h1.get q.1
    obtain ⟨w', k3, k4⟩ := h2.get q.2
    have z1 : some u' = some u := k1.symm.trans e4
    have z2 : some w' = some w := k3.symm.trans e5
    cases z1
    cases z2
    exact .inr ⟨T, [u, w], [pr.1, pr.2], e2, e3, e1, rfl, .cons k2 (.cons k4 .nil)⟩
theorem wk_zipL {G : Hp} {a b : Addr} {vs ws : List V} {ds es : List PyData} {C : Hp → Prop} (h : ∀ H, C H → SqL K H a vs) (h' : ∀ H, C H → SqL K H b ws) (d : Dats K G vs ds) (d' : Dats K G ws es) : WkD K G (Itz K a b) (zipD ds es) C :=
  ⟨_, by rw [zipD_len, ← d.len, ← d'.len]; exact (walk_zip rfl).mono (fun H c => ⟨h H c, h' H c⟩) fun i H x H' _ _ y => y, fun i H x H' dd _ y e => yld_pair d d' y e⟩
theorem walk_zipT {a b : Addr} {vs ws : List V} {n : Nat} (hn : n = min vs.length ws.length) : Walk (RZ.ItzT K a b) n (fun H => SqT K H a vs ∧ SqT K H b ws) (YPair (fun i => vs[i]?) (fun i => ws[i]?)) := by
  subst hn
  refine ⟨fun i _ hi q => ?_, fun _ q => ⟨vs, ws, q.1, q.2, ?_⟩, fun i H v H' _ q y => ?_⟩
  · have k1 : i < vs.length := by omega
    have k2 : i < ws.length := by omega
    exact ⟨vs, ws, vs[i], ws[i], q.1, q.2, List.getElem?_eq_getElem k1, List.getElem?_eq_getElem k2⟩
  · omega
  · obtain ⟨T, u, z, h1, h2, h3, h4, h5⟩ := y
    exact ⟨T, u, z, h1, h2, h3, h4 vs q.1, h5 ws q.2⟩
theorem wk_zipT {G : Hp} {a b : Addr} {vs ws : List V} {ds es : List PyData} {C : Hp → Prop} (h : ∀ H, C H → SqT K H a vs) (h' : ∀ H, C H → SqT K H b ws) (d : Dats K G vs ds) (d' : Dats K G ws es) : WkD K G (RZ.ItzT K a b) (zipD ds es) C :=
  ⟨_, by rw [zipD_len, ← d.len, ← d'.len]; exact (walk_zipT rfl).mono (fun H c => ⟨h H c, h' H c⟩) fun i H x H' _ _ y => y, fun i H x H' dd _ y e => yld_pair d d' y e⟩
/-- both are lists, or both are tuples -/
def sameK : Kd → Kd → Bool
  | .tup, .tup => true
  | .tup, _ => false
  | _, .tup => false
  | _, _ => true
theorem SqD.lt {pt : Pt} {G H : Hp} {v : V} {k : Kd} {ds : List PyData} (h : SqD K pt G H v k ds) (sub : Same G H) (gp : ∀ a ∈ pt.pots, G a = none) : ∃ a vs, v = .ref a ∧ Dats K G vs ds ∧ (k ≠ .tup → ∀ H', Ext pt H H' → SqL K H' a vs) ∧ (k = .tup → ∀ H', Ext pt H H' → SqT K H' a vs) := by
  obtain ⟨a, vs, e, s, d⟩ := h
  have sg : ∀ H', Ext pt H H' → Same G H' := fun H' x c o g => x c o (sub c o g) fun hp => by rw [gp c hp] at g; cases g
  refine ⟨a, vs, e, d, ?_⟩
  cases k with
  | tup => exact ⟨fun z => absurd rfl z, fun _ H' x => .inl (.inl (sg H' x _ _ s))⟩
  | lst => exact ⟨fun _ H' x => .inl (.inl (x a _ s.1 s.2)), fun z => nomatch z⟩
  | scr => exact ⟨fun _ H' x => (sg H' x).seq s, fun z => nomatch z⟩
theorem SqG.lt {G : Hp} {v : V} {k : Kd} {ds : List PyData} (h : SqG K G v k ds) : ∃ a vs, v = .ref a ∧ Dats K G vs ds ∧ (k ≠ .tup → ∀ H', Same G H' → SqL K H' a vs) ∧ (k = .tup → ∀ H', Same G H' → SqT K H' a vs) := by
  obtain ⟨a, vs, e, s, d⟩ := h
  refine ⟨a, vs, e, d, ?_⟩
  cases k with
  | tup => exact ⟨fun z => absurd rfl z, fun _ H' x => .inl (.inl (x _ _ s))⟩
  | lst => exact ⟨fun _ H' x => .inl (.inl (x a _ s)), fun z => nomatch z⟩
  | scr => exact ⟨fun _ H' x => x.seq s, fun z => nomatch z⟩
theorem sameK_out {k k' : Kd} (h : sameK k k' = true) : (k ≠ .tup ∧ k' ≠ .tup) ∨ (k = .tup ∧ k' = .tup) := by
  cases k <;> cases k' <;> simp_all [sameK]
variable {elts : List Expr} {kk : Nat}
theorem xi_zip (ha : XL X B a ml fa) (hb : XL X B b ml' fb) (hm : X.mg "zip" = none) (hg : Gl X "zip" := by rfl) (hs : starEach [a, b] X.env = (false, eval a X.env) :: starEach [b] X.env := by rfl) (hs' : starEach [b] X.env = (false, eval b X.env) :: starEach [] X.env := by rfl)
    (hpl : (backTo pos (starEach [b] X.env)).any (·.1) = false := by rfl) : XI X B (.Tuple elts kk tpos) (.Call (.Name "zip" p) [a, b] [] pos) (fun e Q => ml e fun k ds => ml' e fun k' es => sameK k k' = true ∧ Q (zipD ds es)) (sq fa fb) :=
  ⟨fun e P P' hh q => ha.mono e _ _ (fun k ds q => hb.mono e _ _ (fun k es q => ⟨q.1, hh _ q.2⟩) q) q, piW (RZ.pi_zipA hg hm (two_arg ha.pe hb.pe hs hs') hs hpl) fun σ H R ⟨e, G, bq, r, hh⟩ => ha.go r hh fun k ds q v H1 G1 r1 x1 d1 => hb.go r1 q fun k' es q v2 H2 G2 r2 x2 d2 => by
    obtain ⟨a1, vs, e1, dd1, w1, w2⟩ := (d1.mono x2.same x2.ext).lt r2.sub r2.gpot
    obtain ⟨a2, ws, e2, dd2, w3, w4⟩ := d2.lt r2.sub r2.gpot
    subst e1 e2
    refine ⟨a1, a2, vs, ws, rfl, ?_⟩
    rcases sameK_out q.1 with ⟨k1, k2⟩ | ⟨k1, k2⟩
    · exact .inl ⟨w1 k1 H2 .refl, w3 k2 H2 .refl, q.2 _ H2 G2 r2 (x1.trans x2) (wk_zipL (w1 k1) (w3 k2) dd1 dd2)⟩
    · exact .inr ⟨w2 k1 H2 .refl, w4 k2 H2 .refl, q.2 _ H2 G2 r2 (x1.trans x2) (wk_zipT (w2 k1) (w4 k2) dd1 dd2)⟩⟩
theorem xf_zip (ha : XQ X B a ml fa) (hb : XQ X B b ml' fb) (hm : X.mg "zip" = none) (hg : Gl X "zip" := by rfl) (hs : starEach [a, b] X.env = (false, eval a X.env) :: starEach [b] X.env := by rfl) (hs' : starEach [b] X.env = (false, eval b X.env) :: starEach [] X.env := by rfl)
    (hpl : (backTo pos (starEach [b] X.env)).any (·.1) = false := by rfl) : XF X B (.Tuple elts kk tpos) (.Call (.Name "zip" p) [a, b] [] pos) (fun e Q => ml e fun k ds => ml' e fun k' es => sameK k k' = true ∧ Q (zipD ds es)) (sq fa fb) :=
  ⟨fun e P P' hh q => ha.mono e _ _ (fun k ds q => hb.mono e _ _ (fun k es q => ⟨q.1, hh _ q.2⟩) q) q, piW (RZ.pi_zipA hg hm (two_arg ha.pe hb.pe hs hs') hs hpl) fun σ H R ⟨e, G, bq, r, hh⟩ => ha.go r hh fun k ds q v H1 G1 r1 x1 d1 => hb.go r1 q fun k' es q v2 H2 G2 r2 x2 d2 => by
    obtain ⟨a1, vs, e1, dd1, w1, w2⟩ := (d1.mono x2.same).lt
    obtain ⟨a2, ws, e2, dd2, w3, w4⟩ := d2.lt
    subst e1 e2
    refine ⟨a1, a2, vs, ws, rfl, ?_⟩
    rcases sameK_out q.1 with ⟨k1, k2⟩ | ⟨k1, k2⟩
    · exact .inl ⟨w1 k1 H2 r2.sub, w3 k2 H2 r2.sub, q.2 _ H2 G2 r2 (x1.trans x2) (wk_zipL (w1 k1) (w3 k2) dd1 dd2)⟩
    · exact .inr ⟨w2 k1 H2 r2.sub, w4 k2 H2 r2.sub, q.2 _ H2 G2 r2 (x1.trans x2) (wk_zipT (w2 k1) (w4 k2) dd1 dd2)⟩⟩
end

/-! ### lists of one's own -/
section
variable {X : Cx} {B : Bs} {K : PySem.W.Frag} {x a i : Expr} {m ma mi : M} {ml : ML} {pos apos p : Pos} {n : Str}
/-- an expression that may change one's own lists -/
abbrev MP := En → (U → En → Prop) → Prop
def tMP (K : PySem.W.Frag) (B : Bs) (m : MP) (f : Cst) : TE := fun σ H Q => ∃ e G d, Rel K B (f.1 d) e σ G H ∧ m e fun u e' => ∀ v H' G', Rel K B d e' σ G' H' → Same G G' → UD K B.pt G' v u → Q v H'
structure XM (X : Cx) (B : Bs) (x : Expr) (m : MP) (f : Cst) : Prop where
  mono : ∀ e (P P' : U → En → Prop), (∀ u e, P u e → P' u e) → m e P → m e P'
  pe : PE X x (tMP X.K B m f)
theorem XM.go {e : En} {σ : L2.St} {G H : Hp} {mp : MP} {P : U → En → Prop} {Q : VK} (h : XM X B x mp f) (r : Rel X.K B (f.1 bd) e σ G H) (hm : mp e P)
    (hq : ∀ u e', P u e' → ∀ v H' G', Rel X.K B bd e' σ G' H' → Same G G' → UD X.K B.pt G' v u → Q v H') : tMP X.K B mp f σ H Q := ⟨e, G, _, r, h.mono e P _ hq hm⟩
theorem xm_e (h : XE X B x m f) : XM X B x (fun e Q => m e fun u => Q u e) f :=
  ⟨fun e P P' hh q => h.mono e _ _ (fun u q => hh _ _ q) q, peW h.pe fun σ H Q ⟨e, G, bq, r, hh⟩ => h.go r hh fun u q v H1 G1 r1 x1 d1 => q v H1 G1 r1 x1.same d1⟩
def onOwn (o : Option (Option Sl)) (Q : List PyData → Prop) : Prop := match o with
  | some (some (.own ds)) => Q ds
  | _ => False
theorem onOwn_out {o : Option (Option Sl)} {Q : List PyData → Prop} (h : onOwn o Q) : ∃ ds, o = some (some (.own ds)) ∧ Q ds := by
  unfold onOwn at h
  split at h
  · exact ⟨_, rfl, h⟩
  · exact h.elim
theorem onOwn_mk {o : Option (Option Sl)} {Q : List PyData → Prop} {ds : List PyData} (e : o = some (some (.own ds))) (q : Q ds) : onOwn o Q := by
  rw [e]
  exact q
theorem onOwn_mono {o : Option (Option Sl)} {Q Q' : List PyData → Prop} (hh : ∀ ds, Q ds → Q' ds) (h : onOwn o Q) : onOwn o Q' := by
  obtain ⟨ds, e, q⟩ := onOwn_out h
  exact onOwn_mk e (hh ds q)
def onD (Q : PyData → Prop) : U → Prop
  | .d x => Q x
  | _ => False
theorem onD_out {Q : PyData → Prop} {u : U} (q : onD Q u) : ∃ i, u = .d i ∧ Q i := by
  unfold onD at q
  split at q
  · exact ⟨_, rfl, q⟩
  · exact q.elim
theorem onD_mono {Q Q' : PyData → Prop} (h : ∀ i, Q i → Q' i) (u : U) (q : onD Q u) : onD Q' u := by
  obtain ⟨i, rfl, q⟩ := onD_out q
  exact h i q
theorem ownTy {e : En} {σ : L2.St} {G H : Hp} (r : Rel K B bd e σ G H) {i : Nat} {ds : List PyData} (h : e[i]? = some (some (Sl.own ds))) : ∃ q vs, σ[i]? = some (some (.ref q)) ∧ H q = some (.lst vs) ∧ Dats K G vs ds ∧ tyV K "list" (.ref q) H := by
  obtain ⟨q, vs, h1, h2, h3, _⟩ := r.ownL i ds h
  exact ⟨q, vs, h1, h2, h3, .inl ⟨rfl, _, .inl (.inl h2)⟩⟩
/-- xs.pop(), xs.pop(i) of one's own list -/
theorem xm_popAt (j : Nat) (ha : XE X B a ma fa) (hN : X.N[j]? = some n := by rfl) (hv : Vis X.env.scope n := by first | exact Or.inl rfl | exact Or.inr (Or.inl rfl) | exact Or.inr (Or.inr rfl)) (hs : starEach [a] X.env = (false, eval a X.env) :: starEach [] X.env := by rfl)
    (h : ∀ {t t' : TE}, PE X (.Name n p) t → PE X a t' → PE X (.Call (.Attribute (.Name n p) "pop" apos) [a] [] pos) (tBM X.K "list" rPopAt t (tCons t' tNil))) (hd : (n == ("__debug__" : Str)) = false := by decide) (hcd : (n == ("__classdict__" : Str)) = false := by decide) :
    XM X B (.Call (.Attribute (.Name n p) "pop" apos) [a] [] pos) (fun e Q => onOwn e[j]? fun ds => ma e (onI fun k => 0 ≤ k ∧ RgB k ∧ ∃ d, ds[k.toNat]? = some d ∧ Q (.d d) (e.set j (some (.own (ds.eraseIdx k.toNat)))))) fa :=
  ⟨fun e P P' hh q => onOwn_mono (fun ds q => ha.mono e _ _ (onI_mono fun k ⟨q0, q1, d, q2, q3⟩ => ⟨q0, q1, d, q2, hh _ _ q3⟩) q) q, peW (h (pe_var hN hv hd hcd) ha.pe) fun σ H Q ⟨e, G, bq, r, hh⟩ => by
    obtain ⟨ds, he, q⟩ := onOwn_out hh
    obtain ⟨l, vs, h1, h2, h3, ty⟩ := ownTy r he
    refine ⟨.ref l, h1, ty, ha.go r q fun u q v H1 G1 r1 x1 d1 => ?_⟩
    obtain ⟨k, rfl, k0, kb, d, q2, q3⟩ := onI_out q
    cases d1
    obtain ⟨l', vs', k1, k2, k3, _⟩ := ownTy r1 he
    rw [h1] at k1; cases k1
    obtain ⟨w, e1, e2⟩ := k3.get q2
    have hl : k.toNat < vs'.length := by
      rcases Nat.lt_or_ge k.toNat vs'.length with z | z
      · exact z
      · rw [List.getElem?_eq_none z] at e1; cases e1
    have b1 := kb.lo
    have b2 := kb.hi
    refine ⟨l, vs', k, k.toNat, w, rfl, rfl, k2, by omega, by omega, ?_, e1, ?_⟩
    · have := ixN_seq (n := vs'.length) (i := k) (j := k.toNat) (by unfold ixN; rw [if_pos k0, if_pos (by omega)])
      exact this.1
    · exact q3 w _ G1 (r1.change he h1 (k3.erase _)) x1.same e2⟩
theorem xm_pop (j : Nat) (hN : X.N[j]? = some n := by rfl) (hv : Vis X.env.scope n := by first | exact Or.inl rfl | exact Or.inr (Or.inl rfl) | exact Or.inr (Or.inr rfl))
    (h : ∀ {t : TE}, PE X (.Name n p) t → PE X (.Call (.Attribute (.Name n p) "pop" apos) [] [] pos) (tBM0 X.K "list" rPop t)) (hd : (n == ("__debug__" : Str)) = false := by decide) (hcd : (n == ("__classdict__" : Str)) = false := by decide) :
    XM X B (.Call (.Attribute (.Name n p) "pop" apos) [] [] pos) (fun e Q => onOwn e[j]? fun ds => ∃ d, ds[ds.length - 1]? = some d ∧ Q (.d d) (e.set j (some (.own ds.dropLast)))) cz :=
  ⟨fun e P P' hh q => onOwn_mono (fun ds ⟨d, q2, q3⟩ => ⟨d, q2, hh _ _ q3⟩) q, peW (h (pe_var hN hv hd hcd)) fun σ H Q ⟨e, G, bq, r, hh⟩ => by
    obtain ⟨ds, he, d, q2, q3⟩ := onOwn_out hh
    obtain ⟨l, vs, h1, h2, h3, ty⟩ := ownTy r he
    obtain ⟨w, e1, e2⟩ := h3.get q2
    refine ⟨.ref l, h1, ty, l, vs, w, rfl, rfl, h2, by rw [h3.len]; exact e1, ?_⟩
    exact q3 w _ G (r.change he h1 h3.dropLast) (Same.refl G) e2⟩
/-- xs.append(e) -/
def mApp (j : Nat) (mp : MP) : MS := fun e k => onOwn e[j]? fun _ => mp e fun u e' => onD (fun d => onOwn e'[j]? fun ds => Fits (ds.length + 1) ∧ k.nx (e'.set j (some (.own (ds ++ [d]))))) u
theorem xs_append (j : Nat) {mp : MP} {spos : Pos} (ha : XM X B a mp fa) (h : ∀ {t t' : TE}, PE X (.Name n p) t → PE X a t' → PE X (.Call (.Attribute (.Name n p) "append" apos) [a] [] pos) (tBM X.K "list" rAppend t (tCons t' tNil))) (hN : X.N[j]? = some n := by rfl)
    (hv : Vis X.env.scope n := by first | exact Or.inl rfl | exact Or.inr (Or.inl rfl) | exact Or.inr (Or.inr rfl)) (hw : swapsWith (.Call (.Attribute (.Name n p) "append" apos) [a] [] pos) none spos.line X.env = pure false := by rfl)
    (hd : (n == ("__debug__" : Str)) = false := by decide) (hcd : (n == ("__classdict__" : Str)) = false := by decide) : XS X B (.Expr (.Call (.Attribute (.Name n p) "append" apos) [a] [] pos) spos) (mApp j mp) fa :=
  ⟨fun e k k' hh q => onOwn_mono (fun ds q => ha.mono e _ _ (fun u e' q => onD_mono (fun d q => onOwn_mono (fun ds q => ⟨q.1, hh.nx _ q.2⟩) q) u q) q) q, psW (ps_expr (h (pe_var hN hv hd hcd) ha.pe) hw) fun D σ H ⟨e, G, bq, r, q⟩ => by
    obtain ⟨ds, he, q⟩ := onOwn_out q
    obtain ⟨l, vs, h1, h2, h3, ty⟩ := ownTy r he
    refine ⟨.ref l, h1, ty, ha.go r q fun u e' q v H1 G1 r1 s1 d1 => ?_⟩
    obtain ⟨d, rfl, q⟩ := onD_out q
    obtain ⟨ds', he', c, q⟩ := onOwn_out q
    obtain ⟨l', vs', k1, k2, k3, _⟩ := ownTy r1 he'
    rw [h1] at k1; cases k1
    refine ⟨l, vs', v, rfl, rfl, k2, ?_, ?_⟩
    · rw [k3.len]
      exact lt_line (by have := c.le; omega)
    · exact q σ _ G1 (r1.change he' h1 (k3.app (.one d1))) s1⟩
/-- xs.extend(ys) -/
def mExt (j : Nat) (ml : ML) : MS := fun e k => onOwn e[j]? fun ds => ml e fun kd es => kd = .lst ∧ Fits (ds.length + es.length) ∧ k.nx (e.set j (some (.own (ds ++ es))))
/-- xs[i] = e -/
def mPut (j : Nat) (ma mi : M) : MS := fun e k => ma e (onD fun d => onOwn e[j]? fun ds => mi e (onI fun i => ∃ q, ixN ds.length i = some q ∧ k.nx (e.set j (some (.own (ds.set q d))))))
theorem xs_put (j : Nat) {spos tpos : Pos} (ha : XE X B a ma fa) (hi : XE X B i mi fi) (h : ∀ {t t' t2 : TE}, PE X (.Name n p) t → PE X i t' → PE X a t2 → PS X (.Assign [.Subscript (.Name n p) i tpos] a spos) (tAsg t2 (L2.gSub t t' rSetL))) (hN : X.N[j]? = some n := by rfl)
    (hv : Vis X.env.scope n := by first | exact Or.inl rfl | exact Or.inr (Or.inl rfl) | exact Or.inr (Or.inr rfl)) (hd : (n == ("__debug__" : Str)) = false := by decide) (hcd : (n == ("__classdict__" : Str)) = false := by decide) :
    XS X B (.Assign [.Subscript (.Name n p) i tpos] a spos) (mPut j ma mi) (sq fa fi) :=
  ⟨fun e k k' hh q => ha.mono e _ _ (onD_mono fun d q => onOwn_mono (fun ds q => hi.mono e _ _ (onI_mono fun i ⟨z, q1, q2⟩ => ⟨z, q1, hh.nx _ q2⟩) q) q) q, psW (h (pe_var hN hv hd hcd) hi.pe ha.pe) fun D σ H ⟨e, G, bq, r, q⟩ => ha.go r q fun u q v H1 G1 r1 x1 d1 => by
    obtain ⟨d, rfl, q⟩ := onD_out q
    obtain ⟨ds, he, q⟩ := onOwn_out q
    obtain ⟨l, vs, h1, h2, h3, ty⟩ := ownTy r1 he
    refine ⟨.ref l, h1, hi.go r1 q fun w q v2 H2 G2 r2 x2 d2 => ?_⟩
    obtain ⟨i, rfl, z, q1, q2⟩ := onI_out q
    cases d2
    obtain ⟨l', vs', k1, k2, k3, _⟩ := ownTy r2 he
    rw [h1] at k1; cases k1
    refine ⟨l, vs', i, z, rfl, rfl, k2, by rw [k3.len]; exact q1, ?_⟩
    exact q2 σ _ G2 (r2.change he h1 (k3.set (Dat.mono x2.same d1) z)) (x1.same.trans x2.same)⟩
end
end Fd

set_option Elab.async false
set_option linter.all false
set_option maxRecDepth 100000
set_option maxHeartbeats 400000
/-! Fd, part H: two names at once; comparisons of lists; in; the law's end. -/
namespace Fd
open PySem PySem.Spec PyProof.Rows L2
section
variable {X : Cx} {B : Bs} {K : PySem.W.Frag} {a b : Expr} {ma mb : M} {mo mo' : MO} {ml ml' : ML} {pos px py pt : Pos} {n n' : Str} {i j : Nat} {kt k2 : Nat} {pt2 : Pos}
/-- a, b = x, y -/
def mPar (i j : Nat) (ma mb : M) : MS := fun e k => ma e fun u => mb e fun w => k.nx ((e.set i (some (.val u))).set j (some (.val w)))
theorem xs_par (i j : Nat) (hN : X.N.Nodup) (ha : XE X B a ma fa) (hb : XE X B b mb fb)
    (h : ∀ {t t' : TE}, PE X a t → PE X b t' → PS X (.Assign [.Tuple [.Name n px, .Name n' py] kt pt] (.Tuple [a, b] k2 pt2) pos) (tPar i j (tCons t (tCons t' tNil)))) :
    XS X B (.Assign [.Tuple [.Name n px, .Name n' py] kt pt] (.Tuple [a, b] k2 pt2) pos) (mPar i j ma mb) (sq fa fb) :=
  ⟨fun e k k' hh q => ha.mono e _ _ (fun u q => hb.mono e _ _ (fun w q => hh.nx _ q) q) q, psW (h ha.pe hb.pe) fun D σ H ⟨e, G, bq, r, q⟩ => ha.go r q fun u q v H1 G1 r1 x1 d1 => hb.go r1 q fun w q v2 H2 G2 r2 x2 d2 =>
    ⟨v, v2, rfl, q _ H2 G2 ((r2.store (d1.mono x2.same) i).store d2 j) (x1.same.trans x2.same)⟩⟩
def mParOE (i j : Nat) (mo : MO) (mb : M) : MS := fun e k => mo e fun ds => mb e fun w => k.nx ((e.set i (some (.own ds))).set j (some (.val w)))
theorem xs_parOE (i j : Nat) (hN : X.N.Nodup) (ha : XO X B a mo fa) (hb : XE X B b mb fb)
    (h : ∀ {t t' : TE}, PE X a t → PE X b t' → PS X (.Assign [.Tuple [.Name n px, .Name n' py] kt pt] (.Tuple [a, b] k2 pt2) pos) (tPar i j (tCons t (tCons t' tNil)))) :
    XS X B (.Assign [.Tuple [.Name n px, .Name n' py] kt pt] (.Tuple [a, b] k2 pt2) pos) (mParOE i j mo mb) (sq fa fb) :=
  ⟨fun e k k' hh q => ha.mono e _ _ (fun u q => hb.mono e _ _ (fun w q => hh.nx _ q) q) q, psW (h ha.pe hb.pe) fun D σ H ⟨e, G, bq, r, q⟩ => show tMO X.K B mo fa σ H (fun x H1 => tM X.K B mb fb σ H1 fun y H2 => ∃ v w, [x, y] = [v, w] ∧ D.nx ((σ.set i (some v)).set j (some w)) H2) from ha.go r q fun ds q p vs H1 G1 r1 x1 n1 g1 h1 d1 => hb.go r1 q fun w q v2 H2 G2 r2 x2 d2 => by
    have np := r.nopot n1
    have g2 : G2 p = none := by
      cases z : G2 p with
      | none => rfl
      | some o =>
        rcases x2.grow p o z with t | t | t | ⟨xs, t⟩
        · rw [g1] at t; cases t
        · rw [h1] at t; cases t
        · exact absurd t np
        · have := (x2.ext p _ h1 np).symm.trans (r2.sub p o z)
          rw [t] at this; cases this
    exact ⟨_, v2, rfl, q _ H2 G2 ((r2.storeO (x2.ext p _ h1 np) (d1.mono x2.same) g2 (r.old n1) np (rel_no r r2 n1) i).store d2 j) (x1.same.trans x2.same)⟩⟩
def mParEO (i j : Nat) (ma : M) (mo : MO) : MS := fun e k => ma e fun w => mo e fun ds => k.nx ((e.set i (some (.val w))).set j (some (.own ds)))
theorem xs_parEO (i j : Nat) (hN : X.N.Nodup) (ha : XE X B a ma fa) (hb : XO X B b mo fb)
    (h : ∀ {t t' : TE}, PE X a t → PE X b t' → PS X (.Assign [.Tuple [.Name n px, .Name n' py] kt pt] (.Tuple [a, b] k2 pt2) pos) (tPar i j (tCons t (tCons t' tNil)))) (hij : i ≠ j := by decide) :
    XS X B (.Assign [.Tuple [.Name n px, .Name n' py] kt pt] (.Tuple [a, b] k2 pt2) pos) (mParEO i j ma mo) (sq fa fb) :=
  ⟨fun e k k' hh q => ha.mono e _ _ (fun u q => hb.mono e _ _ (fun w q => hh.nx _ q) q) q, psW (h ha.pe hb.pe) fun D σ H ⟨e, G, bq, r, q⟩ => show tM X.K B ma fa σ H (fun x H1 => tMO X.K B mo fb σ H1 fun y H2 => ∃ v w, [x, y] = [v, w] ∧ D.nx ((σ.set i (some v)).set j (some w)) H2) from ha.go r q fun w q v H1 G1 r1 x1 d1 => hb.go r1 q fun ds q p vs H2 G2 r2 x2 n2 g2 h2 d2 => by
    have np := r1.nopot n2
    have r3 := r2.storeO h2 d2 g2 (r1.old n2) np (rel_no r1 r2 n2) j
    have r4 := r3.store (d1.mono x2.same) i
    rw [List.set_comm _ _ (Ne.symm hij), List.set_comm _ _ (Ne.symm hij)] at r4
    exact ⟨v, _, rfl, q _ H2 G2 r4 (x1.same.trans x2.same)⟩⟩
def mParOO (i j : Nat) (mo mo' : MO) : MS := fun e k => mo e fun ds => mo' e fun es => k.nx ((e.set i (some (.own ds))).set j (some (.own es)))
theorem xs_parOO (i j : Nat) (hN : X.N.Nodup) (ha : XO X B a mo fa) (hb : XO X B b mo' fb)
    (h : ∀ {t t' : TE}, PE X a t → PE X b t' → PS X (.Assign [.Tuple [.Name n px, .Name n' py] kt pt] (.Tuple [a, b] k2 pt2) pos) (tPar i j (tCons t (tCons t' tNil)))) :
    XS X B (.Assign [.Tuple [.Name n px, .Name n' py] kt pt] (.Tuple [a, b] k2 pt2) pos) (mParOO i j mo mo') (sq fa fb) :=
  ⟨fun e k k' hh q => ha.mono e _ _ (fun u q => hb.mono e _ _ (fun w q => hh.nx _ q) q) q, psW (h ha.pe hb.pe) fun D σ H ⟨e, G, bq, r, q⟩ => show tMO X.K B mo fa σ H (fun x H1 => tMO X.K B mo' fb σ H1 fun y H2 => ∃ v w, [x, y] = [v, w] ∧ D.nx ((σ.set i (some v)).set j (some w)) H2) from ha.go r q fun ds q p vs H1 G1 r1 x1 n1 g1 h1 d1 => hb.go r1 q fun es q p2 ws H2 G2 r2 x2 n2 g2 h2 d2 => by
    have np := r.nopot n1
    have gp : G2 p = none := by
      cases z : G2 p with
      | none => rfl
      | some o =>
        rcases x2.grow p o z with t | t | t | ⟨xs, t⟩
        · rw [g1] at t; cases t
        · rw [h1] at t; cases t
        · exact absurd t np
        · have := (x2.ext p _ h1 np).symm.trans (r2.sub p o z)
          rw [t] at this; cases this
    have ne : p ≠ p2 := ne_of_none h1 n2
    have r3 := r2.storeO (x2.ext p _ h1 np) (d1.mono x2.same) gp (r.old n1) np (rel_no r r2 n1) i
    refine ⟨_, _, rfl, q _ H2 G2 (r3.storeO h2 d2 g2 (r1.old n2) (r1.nopot n2) (fun i' ds' z hz => ?_) j) (x1.same.trans x2.same)⟩
    rcases set_get z with ⟨k1, _, k3⟩ | ⟨k1, k3⟩
    · subst k1
      rw [List.getElem?_set_self (by rw [← r2.len]; exact k3)]
      intro t
      cases t
      exact ne rfl
    · rw [set_ne k1]
      exact rel_no r1 r2 n2 i' ds' k3 hz⟩
/-- == and != where one side may be a list of one's own -/
def seqD : Kd → List PyData → PyData
  | .tup, ds => .tuple ds
  | _, ds => .list ds
theorem sq_dat {e : En} {σ : L2.St} {G H : Hp} {v : V} {k : Kd} {ds : List PyData} (r : Rel K B bd e σ G H) (h : SqD K B.pt G H v k ds) (hk : k ≠ .scr) : Dat K H v (seqD k ds) := by
  obtain ⟨a, vs, rfl, s, d⟩ := h
  cases k with
  | tup => exact .tup (r.sub _ _ s) (d.mono r.sub)
  | lst => exact .lst s.1 (d.mono r.sub)
  | scr => exact absurd rfl hk
def gEqL (neg : Bool) (ml ml' : ML) (e : En) (Q : Bool → Prop) : Prop := ml e fun k ds => ml' e fun k' es => k ≠ .scr ∧ k' ≠ .scr ∧ EqB (seqD k ds) (seqD k' es) ∧ Q (if neg = true then !PyData.eqv (seqD k ds) (seqD k' es) else PyData.eqv (seqD k ds) (seqD k' es))
theorem gEqL_mono {neg : Bool} (ha : XL X B a ml fa) (hb : XL X B b ml' fb) (e : En) (P P' : Bool → Prop) (h : ∀ b, P b → P' b) (q : gEqL neg ml ml' e P) : gEqL neg ml ml' e P' :=
  ha.mono e _ _ (fun k ds q => hb.mono e _ _ (fun k es q => ⟨q.1, q.2.1, q.2.2.1, h _ q.2.2.2⟩) q) q
theorem eqL_conv {neg : Bool} (ha : XL X B a ml fa) (hb : XL X B b ml' fb) {σ : L2.St} {H : Hp} {e : En} {G : Hp} {R : Bool → Prop} {Q : VK} (r : Rel X.K B ((sq fa fb).1 bd) e σ G H) (h : gEqL neg ml ml' e R) (hq : ∀ b, R b → ∀ H' G', Rel X.K B bd e σ G' H' → Nxt B.pt G H G' H' → Q (.bl b) H') :
    tOp (rEqP neg X.K) (tML X.K B ml fa) (tML X.K B ml' fb) σ H Q := ha.go r h fun k ds q v H1 G1 r1 x1 d1 => hb.go r1 q fun k' es q v2 H2 G2 r2 x2 d2 =>
  ⟨_, _, sq_dat r2 (d1.mono x2.same x2.ext) q.1, sq_dat r2 d2 q.2.1, q.2.2.1.px, q.2.2.1.py, q.2.2.1.le, hq _ q.2.2.2 H2 G2 r2 (x1.trans x2)⟩
theorem xt_eqL (hu : X.A.units + 64 < cLine) (ha : XL X B a ml fa) (hb : XL X B b ml' fb) : XT X B (.Compare a [.Eq] [b] pos) (gEqL false ml ml') (sq fa fb) :=
  ⟨gEqL_mono ha hb, ptW (pt_cmpR (op_eqP hu) ha.pe hb.pe (nomark _)) fun σ H Q ⟨e, G, bq, r, h⟩ => eqL_conv ha hb r h fun b q H' G' r' x' => ⟨b, rfl, q H' G' r' x'⟩⟩
theorem xt_neL (hu : X.A.units + 64 < cLine) (ha : XL X B a ml fa) (hb : XL X B b ml' fb) : XT X B (.Compare a [.NotEq] [b] pos) (gEqL true ml ml') (sq fa fb) :=
  ⟨gEqL_mono ha hb, ptW (pt_cmpR (op_neP hu) ha.pe hb.pe (nomark _)) fun σ H Q ⟨e, G, bq, r, h⟩ => eqL_conv ha hb r h fun b q H' G' r' x' => ⟨b, rfl, q H' G' r' x'⟩⟩
theorem xe_eqL (hu : X.A.units + 64 < cLine) (ha : XL X B a ml fa) (hb : XL X B b ml' fb) : XE X B (.Compare a [.Eq] [b] pos) (fun e Q => gEqL false ml ml' e fun b => Q (.d (.bool b))) (sq fa fb) :=
  ⟨fun e P P' h q => gEqL_mono ha hb e _ _ (fun b q => h _ q) q, peW (pe_cmpR (op_eqP hu) ha.pe hb.pe (nomark _)) fun σ H Q ⟨e, G, bq, r, h⟩ => eqL_conv ha hb r h fun b q H' G' r' x' => q _ H' G' r' x' (.bl b)⟩
theorem xe_neL (hu : X.A.units + 64 < cLine) (ha : XL X B a ml fa) (hb : XL X B b ml' fb) : XE X B (.Compare a [.NotEq] [b] pos) (fun e Q => gEqL true ml ml' e fun b => Q (.d (.bool b))) (sq fa fb) :=
  ⟨fun e P P' h q => gEqL_mono ha hb e _ _ (fun b q => h _ q) q, peW (pe_cmpR (op_neP hu) ha.pe hb.pe (nomark _)) fun σ H Q ⟨e, G, bq, r, h⟩ => eqL_conv ha hb r h fun b q H' G' r' x' => q _ H' G' r' x' (.bl b)⟩
/-- x in xs, x not in xs -/
structure InB (d : PyData) (ds : List PyData) : Prop where
  px : d.plain = true
  ps : PyData.plainAll ds = true
  le : min (PyData.depthAll ds) d.depth ≤ 60
def rInP (neg : Bool) (K : PySem.W.Frag) : R2 := fun x y H Q => ∃ d k ds, Dat K H x d ∧ Dat K H y (seqD k ds) ∧ InB d ds ∧ Q (.bl (if neg = true then !ds.any fun z => PyData.eqv z d else ds.any fun z => PyData.eqv z d)) H
theorem op_inP (hu : X.A.units + 64 < cLine) : OpR X (compareOp .In) (rInP false X.K) := fun pins s σ H x y v u Q I rx ry ⟨d, k, ds, h1, h2, c, q⟩ => by
  obtain ⟨as, r1⟩ := Dat.reads I h1 c.px rx
  have hl := c.le
  cases k with
  | tup =>
    obtain ⟨bs, r2⟩ := Dat.reads I h2 (by show PyData.plain (.tuple ds) = true; simp only [PyData.plain]; exact c.ps) ry
    exact SeqAt.in_tuple_data r2 r1 c.ps c.px (by omega) ⟨.bl _, H, I, rfl, q⟩
  | lst =>
    obtain ⟨bs, r2⟩ := Dat.reads I h2 (by show PyData.plain (.list ds) = true; simp only [PyData.plain]; exact c.ps) ry
    exact SeqAt.in_list_data r2 r1 c.ps c.px (by omega) ⟨.bl _, H, I, rfl, q⟩
  | scr =>
    obtain ⟨bs, r2⟩ := Dat.reads I h2 (by show PyData.plain (.list ds) = true; simp only [PyData.plain]; exact c.ps) ry
    exact SeqAt.in_list_data r2 r1 c.ps c.px (by omega) ⟨.bl _, H, I, rfl, q⟩
theorem op_notInP (hu : X.A.units + 64 < cLine) : OpR X (compareOp .NotIn) (rInP true X.K) := fun pins s σ H x y v u Q I rx ry ⟨d, k, ds, h1, h2, c, q⟩ => by
  obtain ⟨as, r1⟩ := Dat.reads I h1 c.px rx
  have hl := c.le
  cases k with
  | tup =>
    obtain ⟨bs, r2⟩ := Dat.reads I h2 (by show PyData.plain (.tuple ds) = true; simp only [PyData.plain]; exact c.ps) ry
    exact SeqAt.notIn_tuple_data r2 r1 c.ps c.px (by omega) ⟨.bl _, H, I, rfl, q⟩
  | lst =>
    obtain ⟨bs, r2⟩ := Dat.reads I h2 (by show PyData.plain (.list ds) = true; simp only [PyData.plain]; exact c.ps) ry
    exact SeqAt.notIn_list_data r2 r1 c.ps c.px (by omega) ⟨.bl _, H, I, rfl, q⟩
  | scr =>
    obtain ⟨bs, r2⟩ := Dat.reads I h2 (by show PyData.plain (.list ds) = true; simp only [PyData.plain]; exact c.ps) ry
    exact SeqAt.notIn_list_data r2 r1 c.ps c.px (by omega) ⟨.bl _, H, I, rfl, q⟩
def gIn (neg : Bool) (ma : M) (ml : ML) (e : En) (Q : Bool → Prop) : Prop := ma e (onD fun d => ml e fun k ds => k ≠ .scr ∧ InB d ds ∧ Q (if neg = true then !ds.any fun z => PyData.eqv z d else ds.any fun z => PyData.eqv z d))
theorem gIn_mono {neg : Bool} (ha : XE X B a ma fa) (hb : XL X B b ml fb) (e : En) (P P' : Bool → Prop) (h : ∀ b, P b → P' b) (q : gIn neg ma ml e P) : gIn neg ma ml e P' :=
  ha.mono e _ _ (onD_mono fun d q => hb.mono e _ _ (fun k es q => ⟨q.1, q.2.1, h _ q.2.2⟩) q) q
theorem in_conv {neg : Bool} (ha : XE X B a ma fa) (hb : XL X B b ml fb) {σ : L2.St} {H : Hp} {e : En} {G : Hp} {R : Bool → Prop} {Q : VK} (r : Rel X.K B ((sq fa fb).1 bd) e σ G H) (h : gIn neg ma ml e R) (hq : ∀ b, R b → ∀ H' G', Rel X.K B bd e σ G' H' → Nxt B.pt G H G' H' → Q (.bl b) H') :
    tOp (rInP neg X.K) (tM X.K B ma fa) (tML X.K B ml fb) σ H Q := ha.go r h fun u q v H1 G1 r1 x1 d1 => by
  obtain ⟨d, rfl, q⟩ := onD_out q
  exact hb.go r1 q fun k es q v2 H2 G2 r2 x2 d2 => ⟨d, k, es, Dat.mono r2.sub (Dat.mono x2.same d1), sq_dat r2 d2 q.1, q.2.1, hq _ q.2.2 H2 G2 r2 (x1.trans x2)⟩
theorem xt_in (hu : X.A.units + 64 < cLine) (ha : XE X B a ma fa) (hb : XL X B b ml fb) (hm : behindInMarks .In b = false := by rfl) : XT X B (.Compare a [.In] [b] pos) (gIn false ma ml) (sq fa fb) :=
  ⟨gIn_mono ha hb, ptW (pt_cmpR (op_inP hu) ha.pe hb.pe hm) fun σ H Q ⟨e, G, bq, r, h⟩ => in_conv ha hb r h fun b q H' G' r' x' => ⟨b, rfl, q H' G' r' x'⟩⟩
theorem xt_notIn (hu : X.A.units + 64 < cLine) (ha : XE X B a ma fa) (hb : XL X B b ml fb) (hm : behindInMarks .NotIn b = false := by rfl) : XT X B (.Compare a [.NotIn] [b] pos) (gIn true ma ml) (sq fa fb) :=
  ⟨gIn_mono ha hb, ptW (pt_cmpR (op_notInP hu) ha.pe hb.pe hm) fun σ H Q ⟨e, G, bq, r, h⟩ => in_conv ha hb r h fun b q H' G' r' x' => ⟨b, rfl, q H' G' r' x'⟩⟩
theorem xe_in (hu : X.A.units + 64 < cLine) (ha : XE X B a ma fa) (hb : XL X B b ml fb) (hm : behindInMarks .In b = false := by rfl) : XE X B (.Compare a [.In] [b] pos) (fun e Q => gIn false ma ml e fun b => Q (.d (.bool b))) (sq fa fb) :=
  ⟨fun e P P' h q => gIn_mono ha hb e _ _ (fun b q => h _ q) q, peW (pe_cmpR (op_inP hu) ha.pe hb.pe hm) fun σ H Q ⟨e, G, bq, r, h⟩ => in_conv ha hb r h fun b q H' G' r' x' => q _ H' G' r' x' (.bl b)⟩
theorem xe_notIn (hu : X.A.units + 64 < cLine) (ha : XE X B a ma fa) (hb : XL X B b ml fb) (hm : behindInMarks .NotIn b = false := by rfl) : XE X B (.Compare a [.NotIn] [b] pos) (fun e Q => gIn true ma ml e fun b => Q (.d (.bool b))) (sq fa fb) :=
  ⟨fun e P P' h q => gIn_mono ha hb e _ _ (fun b q => h _ q) q, peW (pe_cmpR (op_notInP hu) ha.pe hb.pe hm) fun σ H Q ⟨e, G, bq, r, h⟩ => in_conv ha hb r h fun b q H' G' r' x' => q _ H' G' r' x' (.bl b)⟩
end

/-! ### the law's end: its promise is kept where nothing is shown around -/
theorem lawG {P : Program} {w : World} {K : PySem.W.Frag} {mg mb : Str → Option Value} {k : Nat} {fa sc : Addr} {fd : FuncData} {x : Str} {sp : List V → Hp → VK → Prop} {t : Shared} {us : List Value} {ns : List Int}
    (kin : K.In t.heap) (nsM : t.heap.Ns mainGlobals mg) (nsB : t.heap.Ns builtinsNs mb) (bts : ∀ y : Str, y ≠ "__name__" → mb y = bootBuiltins y) (lim : t.heap.NoLimit) (seer : t.heap.NoSeer) (gens : t.gens = #[])
    (at_ : t.heap.get? sc = some { cls := .type "list", data := .seq us.toArray }) (hin : IntsAre us ns) (len : ns.length ≤ sizeLine) (room : Room k callerA)
    (F : ∀ base : Heap, K.In base → base.Ns mainGlobals mg → (∃ o, base.get? sysModules = some o) → FnG P w K mg base k fa fd [x] sp) (bind : ∀ (s : Shared) (u : Value), BindsTo s fd ⟨[u], []⟩ [(x, u)])
    (want : ∀ H : Hp, Only H → SqL K H sc (ns.map V.int) → sp [.ref sc] H fun v _ => v = .bl true) :
    codeAny (model P w) callerA (.call (.ref fa) ⟨[.ref sc], []⟩) (fun r t' => r = .ok (.ret (.bool true)) ∧ OldK t.heap t'.heap ∧ t'.os = t.os ∧ AllBare t'.gens) t := by
  have rvs := vals_ints hin
  have lv := hin.length
  have main : ∀ H : Hp, Only H → SqL K H sc (ns.map V.int) → HOk P w H t.heap → (∀ c, H c ≠ none → c = sc) → (H sc ≠ none → K.lookup sc = none) →
      codeAny (model P w) callerA (.call (.ref fa) ⟨[.ref sc], []⟩) (fun r t' => r = .ok (.ret (.bool true)) ∧ OldK t.heap t'.heap ∧ t'.os = t.os ∧ AllBare t'.gens) t := by
    intro H only sq ok one nk
    have notDict : ∀ {c : Addr} {o : Obj} {es : Array DictEntry} {n : Nat}, t.heap.get? c = some o → o.data = .dict es n → H c = none := fun {c o es n} e d => by
      cases q : H c with
      | none => rfl
      | some h0 =>
        obtain rfl : c = sc := one c (by rw [q]; simp)
        rw [at_] at e
        cases e
        have d2 : Data.seq us.toArray _ = Data.dict es n := d
        cases d2
    have nsH : ∀ {c : Addr} {m : Str → Option Value}, t.heap.Ns c m → (hidT t.heap H).Ns c m := fun {c m} ⟨o, es, n, e, d, rest⟩ => ⟨o, es, n, hidT_get e (notDict e d), d, rest⟩
    have kinH : K.In (hidT t.heap H) := fun c o e => hidT_get (kin c o e) (by
      cases q : H c with
      | none => rfl
      | some h0 =>
        obtain rfl : c = sc := one c (by rw [q]; simp)
        have z := nk (by rw [q]; simp)
        rw [z] at e
        cases e)
    have modH : Mod K mg (hidT t.heap H) := ⟨kinH, nsH nsM, ⟨mb, nsH nsB, bts⟩, let ⟨mc, z1, z2⟩ := lim; ⟨mc, nsH z1, z2⟩⟩
    have sysH : ∃ o, (hidT t.heap H).get? sysModules = some o := by
      obtain ⟨ms, hms, _⟩ := seer.mods
      obtain ⟨o, _, _, e, _⟩ := nsH hms
      exact ⟨o, e⟩
    have env : Env0 P w K mg (hidT t.heap H) callerA [] t H := ⟨rfl, modH, fun c o e => of_hidT e, Nat.le_of_eq (hidT_size _ _), trivial, fun c hc => (nomatch hc), ok, .of_eq gens⟩
    refine codeAny_mono ((F _ kinH (nsH nsM) sysH).run callerA [] t H ⟨[.ref sc], []⟩ [.ref sc] [.ref sc] _ room rfl env (bind t (.ref sc)) (.cons rfl .nil) (want H only sq)) fun r t' hr => ?_
    match r, hr with
    | .ok (.ret u), hr =>
      obtain ⟨v, H2, os2, bare2, un2, ok2, rv, q⟩ := hr
      have qv : v = .bl true := q
      subst qv
      obtain rfl : u = Value.bool true := rv
      refine ⟨rfl, OldK.of_keep fun c o e => ?_, os2, bare2⟩
      cases z : H c with
      | none => exact un2.keep c o e z (fun hc => nomatch hc) fun hc => nomatch hc
      | some h0 =>
        rcases only c with y | ⟨ob, xs, y⟩
        · rw [z] at y; cases y
        · obtain ⟨e1, _⟩ := ok c _ y
          obtain ⟨e2, _⟩ := ok2 c _ (un2.frzs c ob _ y)
          rw [e] at e1
          cases e1
          exact e2
  cases hk : K.lookup sc with
  | some o =>
    have e := kin sc o hk
    rw [at_] at e
    cases e
    refine main (fun _ => none) (fun _ => .inl rfl) (.inr ⟨_, us.toArray, _, hk, rfl, rfl, rfl, ?_, by simpa using rvs⟩) (fun c h0 z => nomatch z) (fun c z => absurd rfl z) fun z => absurd rfl z
    rw [List.size_toArray, lv]
    exact len
  | none =>
    refine main (fun c => if c = sc then some (.frz { cls := .type "list", data := .seq us.toArray } (.lst (ns.map V.int))) else none) (fun c => ?_) (.inl (.inr ⟨{ cls := .type "list", data := .seq us.toArray }, if_pos rfl⟩)) (fun c h0 z => ?_) (fun c z => ?_) fun _ => hk
    · by_cases hc : c = sc
      · exact .inr ⟨_, _, if_pos hc⟩
      · exact .inl (if_neg hc)
    · by_cases hc : c = sc
      · have y := (if_pos hc).symm.trans z
        cases y
        subst hc
        exact ⟨at_, by rw [List.length_map]; exact len, us, _, rvs, at_⟩
      · have y := (if_neg hc).symm.trans z
        cases y
    · by_cases hc : c = sc
      · exact hc
      · exact absurd (if_neg hc) z
/-- .. as the goal that the head leaves -/
theorem walkG {l : PySem.W.OpenLaw} {n k : Nat} {q : Program} {loose : List Str} {XP : (Str → Option Value) → Heap → Prop} {YP : World → Heap → Prop} {d : DefRec} {K : Params → PySem.W.Frag} {sp : PySem.W.Frag → List V → Hp → VK → Prop} {x : Str}
    (imp : importsNone q = true) (most : l.most = some n) (le : n ≤ sizeLine) (nodef : d.params.defaults = []) (room : Room k callerA) (kin : ∀ (w : World) (h : Heap), YP w h → (K w.params).In h)
    (F : ∀ (w : World) (mg : Str → Option Value) (fa : Addr) (h : Heap), (K w.params).In h → h.Ns mainGlobals mg → mg d.name = some (.ref fa) →
      ∃ fd : FuncData, (∀ (s : Shared) (u : Value), BindsTo s fd ⟨[u], []⟩ [(x, u)]) ∧ ∀ base : Heap, (K w.params).In base → base.Ns mainGlobals mg → (∃ o, base.get? sysModules = some o) → FnG l.prog w (K w.params) mg base k fa fd [x] (sp (K w.params)))
    (want : ∀ (K : PySem.W.Frag) (H : Hp) (a : Addr) (ns : List Int), ns.length ≤ n → Only H → SqL K H a (ns.map V.int) → sp K [.ref a] H fun v _ => v = .bl true) :
    PySem.W.WalkO q loose XP YP l.row.toRowW d [] (fun f vs => PySem.call f vs) := by
  refine Att.attach_call most nodef fun w t0 t mg mb fa o pm cd doc sc us ns G Y ho hd hcd hmg hobj hints hlen hg => ?_
  have kw := kin w _ Y
  obtain ⟨fd, bind, hF⟩ := F w mg fa _ kw G.T.g hmg
  exact lawG kw G.T.g G.T.b G.T.builtins G.T.nolimit (G.T.seer imp) hg hobj hints (Nat.le_trans hlen le) room hF bind fun H hO hS => want (K w.params) H sc ns hlen hO hS
/-- THE RULE for a def, its meaning found in place -/
theorem okQ {P : Program} {w : World} {K : PySem.W.Frag} {mg : Str → Option Value} {base : Heap} {x qual : Str} {st : Stmt} {f : Addr} {fd : FuncData} {N ps : List Str} {k c : Nat} {Φ : Ph} (F : Fun K x qual st f fd) (S : FnScope N ps (defScope st)) (len : ∀ us Q, Φ us Q → us.length = ps.length)
    (hbody : ∀ (cdv : Value) (A : Around) (outer : List Env) (s : Shared) (H : Hp) (B : Bs), Room k (A.deeper (envOfC qual (defScope st) s.heap.objs.size f cdv)) → (A.deeper (envOfC qual (defScope st) s.heap.objs.size f cdv)).guards = some [] →
      ∃ m fb, XSs (cxOf CX0 P w K mg base N qual (defScope st) f cdv A outer s H E0).nox B (defBody st) m fb ∧ (∀ d, fb.1 d ≤ d + c) ∧ ∀ us Q, Φ us Q → m (entry N us) { nx := fun _ => Q (.d .none), rt := Q }) : FnG P w K mg base (k + 1) f fd ps (spF K Φ c) := by
  refine okG F S (fun vs H Q ⟨pt, G, us, _, _, _, _, d, q⟩ => by rw [d.len]; exact len _ _ q) fun cdv A outer s H vs Q hr hg ⟨pt, G, us, b, sub, gp, J, d, q⟩ => ?_
  obtain ⟨m, fb, xb, hc, hm⟩ := hbody cdv A outer s H ⟨pt, H, G⟩ hr hg
  refine ⟨_, xb.ps, entry N us, G, b, rel_entry sub gp (pt.le J (hc b)) d, xb.mono _ _ _ ⟨fun e q σ' H' G' r s => ?_, fun u q v e' σ' H' G' r s d => ?_, fun e q => False.elim q, fun e q => False.elim q⟩ (hm us _ q)⟩
  · exact q .non H' G' r.sub s r.gpot r.J r.frame r.grow .non
  · exact q v H' G' r.sub s r.gpot r.J r.frame r.grow d
/-- the law: its first statement makes the pot -/
def spLaw (K : PySem.W.Frag) : List V → Hp → VK → Prop := fun vs H Q => ∃ (a : Addr) (ns : List Int), vs = [.ref a] ∧ Only H ∧ SqL K H a (ns.map V.int) ∧ ns.length ≤ 63 ∧ ∀ H', Q (.bl true) H'
/-- no thing as it stands since the start -/
def NoFrz : HO → Prop
  | .frz _ _ => False
  | _ => True
/-- what a statement assigns -/
def asgV : Stmt → Expr
  | .Assign _ v _ => v
  | _ => .Constant .none 0 ⟨0, 0, 0, 0⟩
theorem okLaw {P : Program} {w : World} {K : PySem.W.Frag} {mg : Str → Option Value} {base : Heap} {x qual : Str} {st s1 : Stmt} {e1 : Expr} {rest : List Stmt} {f : Addr} {fd : FuncData} {N : List Str} {p : Str} {k : Nat} (F : Fun K x qual st f fd) (S : FnScope N [p] (defScope st)) (hb : defBody st = s1 :: rest) (hN : 2 ≤ N.length)
    (MkPot : PyData → Prop) (is_pot : ∀ (K : PySem.W.Frag) (G H : Hp) (v : V) (d : PyData) (b : Nat), b ≤ 2 ^ 1000 → MkPot d → Dat K G v d → Same G H → ∃ ap ag, v = .ref ap ∧ (∃ o, G ap = some o ∧ NoFrz o) ∧ (∃ o, G ag = some o ∧ NoFrz o) ∧ PotJ ap ag b H)
    (hbody : ∀ (cdv : Value) (A : Around) (outer : List Env) (s : Shared) (H : Hp), Room k (A.deeper (envOfC qual (defScope st) s.heap.objs.size f cdv)) → (A.deeper (envOfC qual (defScope st) s.heap.objs.size f cdv)).guards = some [] →
      ∃ m1 m2 f1 f2, (∀ {t : TE}, PE (cxOf CX0 P w K mg base N qual (defScope st) f cdv A outer s H E0).nox e1 t → PS (cxOf CX0 P w K mg base N qual (defScope st) f cdv A outer s H E0).nox s1 (tAsg t (gName 1))) ∧
        (∀ B, XE (cxOf CX0 P w K mg base N qual (defScope st) f cdv A outer s H E0).nox B e1 m1 f1) ∧ (∀ B, XSs (cxOf CX0 P w K mg base N qual (defScope st) f cdv A outer s H E0).nox B rest m2 f2) ∧ f2.1 0 ≤ 2 ^ 1000 ∧
        (∀ ns : List Int, ns.length ≤ 63 → m1 (entry N [.scr (ns.map .int)]) (onD MkPot)) ∧
        (∀ ns : List Int, ns.length ≤ 63 → m2 ((entry N [.scr (ns.map .int)]).set 1 (some (.val .pot))) { nx := fun _ => False, rt := fun u => u = .d (.bool true) })) : FnG P w K mg base (k + 1) f fd [p] (spLaw K) := by
  refine okG F S (fun vs H Q ⟨a, ns, e, _⟩ => by rw [e]; rfl) fun cdv A outer s H vs Q hr hg ⟨a, ns, e, only, sq, hl, q⟩ => ?_
  subst e
  obtain ⟨m1, m2, f1, f2, hp, x1, x2, hcap, q1, q2⟩ := hbody cdv A outer s H hr hg
  rw [hb]
  have off : ∀ a, a ∉ (⟨0, 0, false⟩ : Pt).pots := fun a h => by
    have := (Pt.mem h).1
    cases this
  have ud : UDs K ⟨0, 0, false⟩ H [.ref a] [.scr (ns.map .int)] := .cons ⟨a, _, rfl, sq, dats_ints ns⟩ .nil
  have r0 := rel_entry (K := K) (pt := ⟨0, 0, false⟩) (N := N) (bd := f1.1 0) (Same.refl H) (fun a ha => absurd ha (off a)) (fun z => nomatch z) ud
  have rest : PSs (cxOf CX0 P w K mg base N qual (defScope st) f cdv A outer s H E0).nox rest (fun D σ H => ∃ B, tMS K B m2 f2 D σ H) := ⟨fun pins s σ H D I ⟨B, z⟩ => (x2 B).ps.run pins s σ H D I z⟩
  refine ⟨_, pss_cons (hp (x1 ⟨⟨0, 0, false⟩, H, H⟩).pe) rest, ?_⟩
  refine (x1 ⟨⟨0, 0, false⟩, H, H⟩).go r0 (q1 ns hl) fun u hu v H' G' r' n' d' => ?_
  obtain ⟨d, rfl, mk⟩ := onD_out hu
  obtain ⟨ap, ag, rfl, ⟨xs1, g1, f1⟩, ⟨xs2, g2, f2⟩, pj⟩ := is_pot K G' H' v d (f2.1 0) hcap mk d' r'.sub
  have nG : ∀ {b : Addr} {ob : HO}, G' b = some ob → NoFrz ob → H b = none := fun {b ob} g nf => by
    rcases only b with z | ⟨o, ys, z⟩
    · exact z
    · have := n'.same b _ z
      rw [g] at this
      cases this
      exact nf.elim
  have el : (entry N [.scr (ns.map .int)]).length = N.length := by
    unfold entry
    rw [List.length_append, List.length_map, List.length_replicate, List.length_singleton]
    omega
  refine ⟨⟨⟨ap, ag, true⟩, H', H⟩, (entry N [.scr (ns.map .int)]).set 1 (some (.val .pot)), H, 0, ?_, (x2 ⟨⟨ap, ag, true⟩, H', H⟩).mono _ _ _ ⟨fun e z => False.elim z, fun u z v e' σ2 H2 G2 r2 s2 d2 => ?_, fun e z => False.elim z, fun e z => False.elim z⟩ (q2 ns hl)⟩
  · refine ⟨fun b o z => r'.sub b o (n'.same b o z), Same.refl H, fun b o z => .inl z, fun b hb => ?_, fun _ => pj, Ext.refl, ?_, fun i u z => ?_, fun i ds z hz => ?_, fun i j ds es q z _ hz _ _ _ => ?_⟩
    · rcases (Pt.mem hb).2 with z | z
      · rw [z]; exact nG g1 f1
      · rw [z]; exact nG g2 f2
    · rw [List.length_set, List.length_set]; exact r'.len
    · rcases set_get z with ⟨h1, h2, _⟩ | ⟨h1, h2⟩
      · subst h1
        cases h2
        refine ⟨.ref ap, List.getElem?_set_self (by rw [← r'.len, el]; omega), rfl, rfl⟩
      · obtain ⟨u', h3, h4⟩ := entry_get h2
        cases h4
        have hi : i = 0 := by
          rcases Nat.lt_or_ge i 1 with t | t
          · omega
          · rw [List.getElem?_eq_none (by simpa using t)] at h3; cases h3
        subst hi
        cases h3
        exact ⟨.ref a, by rw [set_ne h1]; rfl, a, _, rfl, sq, dats_ints ns⟩
    · rcases set_get z with ⟨_, h2, _⟩ | ⟨_, h2⟩
      · cases h2; cases hz
      · obtain ⟨u', h3, h4⟩ := entry_get h2
        cases h4; cases hz
    · rcases set_get z with ⟨_, h2, _⟩ | ⟨_, h2⟩
      · cases h2; cases hz
      · obtain ⟨u', h3, h4⟩ := entry_get h2
        cases h4; cases hz
  · subst z
    cases d2
    exact q H2
end Fd

set_option Elab.async false
set_option linter.all false
set_option maxRecDepth 100000
set_option maxHeartbeats 400000
/-! Fd, part I: loops and comprehensions by plain induction. -/
namespace Fd
open PySem PySem.Spec PyProof.Rows L2
/-- a for, by what holds of what is left and the slots -/
theorem forL_rec {mg : MG} {mb : MS} {k : Kt} (I : List PyData → En → Prop) (h0 : ∀ e, I [] e → k.nx e)
    (hs : ∀ d ds e (R : En → Prop), I (d :: ds) e → (∀ e', I ds e' → R e') → mg (.d d) e fun e1 => mb e1 { nx := R, rt := k.rt, bk := k.nx, ct := R }) : ∀ ds e, I ds e → forL mg mb ds e k
  | [], e, i => h0 e i
  | d :: ds, e, i => hs d ds e _ i fun e' i' => forL_rec I h0 hs ds e' i'
/-- a comprehension, by what holds of what is left and what is made -/
theorem lcGo_rec {mg : MG} {mt : MT} {me : M} {e : En} {Q : List PyData → Prop} (I : List PyData → List PyData → Prop) (h0 : ∀ acc, I [] acc → Q acc)
    (hs : ∀ d ds acc (R : List PyData → Prop), I (d :: ds) acc → (∀ acc', I ds acc' → R acc') → mg (.d d) e fun e1 => mt e1 fun b => if b = true then me e1 fun u => match u with
      | .d x => R (acc ++ [x])
      | _ => False
    else R acc) : ∀ ds acc, I ds acc → lcGo mg mt me e Q ds acc
  | [], acc, i => h0 acc i
  | d :: ds, acc, i => hs d ds acc _ i fun acc' i' => lcGo_rec I h0 hs ds acc' i'
/-- a comprehension without tests whose element is a function of the item -/
theorem lcGo_map {mg : MG} {me : M} {e : En} {Q : List PyData → Prop} (f : PyData → PyData) (ds : List PyData) (hs : ∀ d ∈ ds, ∀ R : PyData → Prop, R (f d) → mg (.d d) e fun e1 => me e1 fun u => match u with
      | .d x => R x
      | _ => False) (q : Q (ds.map f)) : lcGo mg mYes me e Q ds [] := by
  have all : ∀ (es acc : List PyData), (∀ d ∈ es, d ∈ ds) → Q (acc ++ es.map f) → lcGo mg mYes me e Q es acc := by
    intro es
    induction es with
    | nil => intro acc _ q; rw [List.map_nil, List.append_nil] at q; exact q
    | cons d es ih =>
      intro acc hm q
      refine hs d (hm d List.mem_cons_self) (fun x => lcGo mg mYes me e Q es (acc ++ [x])) (ih _ (fun x hx => hm x (List.mem_cons_of_mem _ hx)) ?_)
      rw [List.append_assoc]
      exact q
  exact all ds [] (fun _ h => h) q
/-- .. whose elements each have a property -/
inductive All2 (P : PyData → PyData → Prop) : List PyData → List PyData → Prop
  | nil : All2 P [] []
  | cons {a b : PyData} {as bs : List PyData} : P a b → All2 P as bs → All2 P (a :: as) (b :: bs)
theorem All2.len {P : PyData → PyData → Prop} : ∀ {as bs : List PyData}, All2 P as bs → as.length = bs.length
  | _, _, .nil => rfl
  | _, _, .cons _ t => by rw [List.length_cons, List.length_cons, t.len]
theorem All2.snoc {P : PyData → PyData → Prop} {a b : PyData} (h : P a b) : ∀ {as bs : List PyData}, All2 P as bs → All2 P (as ++ [a]) (bs ++ [b])
  | _, _, .nil => .cons h .nil
  | _, _, .cons q t => .cons q (t.snoc h)
theorem All2.app {P : PyData → PyData → Prop} : ∀ {as bs cs ds : List PyData}, All2 P as bs → All2 P cs ds → All2 P (as ++ cs) (bs ++ ds)
  | _, _, _, _, .nil, q => q
  | _, _, _, _, .cons q t, z => .cons q (t.app z)
theorem lcGo_all {mg : MG} {me : M} {e : En} {Q : List PyData → Prop} (P : PyData → PyData → Prop) (ds : List PyData) (hs : ∀ d ∈ ds, ∀ R : PyData → Prop, (∀ x, P d x → R x) → mg (.d d) e fun e1 => me e1 fun u => match u with
      | .d x => R x
      | _ => False) (q : ∀ es, All2 P ds es → Q es) : lcGo mg mYes me e Q ds [] := by
  have all : ∀ (es pre acc : List PyData), ds = pre ++ es → All2 P pre acc → lcGo mg mYes me e Q es acc := by
    intro es
    induction es with
    | nil =>
      intro pre acc hd h
      rw [List.append_nil] at hd
      exact q acc (by rw [hd]; exact h)
    | cons d es ih =>
      intro pre acc hd h
      refine hs d (by rw [hd]; exact List.mem_append_right _ List.mem_cons_self) (fun x => lcGo mg mYes me e Q es (acc ++ [x])) fun x hx => ih (pre ++ [d]) (acc ++ [x]) (by rw [hd, List.append_assoc]; rfl) (h.snoc hx)
  exact all ds [] [] rfl .nil
/-- .. the elements each have a property -/
theorem lcGo_gen {mg : MG} {me : M} {e : En} {Q : List PyData → Prop} (P : PyData → Prop) (ds : List PyData) (hs : ∀ d ∈ ds, ∀ R : PyData → Prop, (∀ x, P x → R x) → mg (.d d) e fun e1 => me e1 fun u => match u with
      | .d x => R x
      | _ => False) (q : ∀ es, es.length = ds.length → (∀ x ∈ es, P x) → Q es) : lcGo mg mYes me e Q ds [] := by
  refine lcGo_rec (fun ls acc => (∀ d ∈ ls, d ∈ ds) ∧ acc.length + ls.length = ds.length ∧ ∀ x ∈ acc, P x) (fun acc h => q acc h.2.1 h.2.2) (fun d ls acc R h hR => ?_) ds [] ⟨fun _ h => h, by rw [List.length_nil, Nat.zero_add], fun _ h => (nomatch h)⟩
  refine hs d (h.1 d List.mem_cons_self) (fun x => R (acc ++ [x])) fun x hx => hR _ ⟨fun z hz => h.1 z (List.mem_cons_of_mem _ hz), ?_, fun z hz => ?_⟩
  · have := h.2.1
    rw [List.length_cons] at this
    rw [List.length_append, List.length_singleton]
    omega
  · rcases List.mem_append.mp hz with t | t
    · exact h.2.2 z t
    · rw [List.mem_singleton] at t
      rw [t]; exact hx
/-- .. with tests -/
theorem lcGo_some {mg : MG} {mt : MT} {me : M} {e : En} {Q : List PyData → Prop} (P : PyData → Prop) (ds : List PyData) (hs : ∀ d ∈ ds, ∀ R : Option PyData → Prop, (∀ o, (∀ x, o = some x → P x) → R o) → mg (.d d) e fun e1 => mt e1 fun b => if b = true then me e1 fun u => match u with
      | .d x => R (some x)
      | _ => False
    else R none) (q : ∀ es, es.length ≤ ds.length → (∀ x ∈ es, P x) → Q es) : lcGo mg mt me e Q ds [] := by
  refine lcGo_rec (fun ls acc => (∀ d ∈ ls, d ∈ ds) ∧ acc.length + ls.length ≤ ds.length ∧ ∀ x ∈ acc, P x) (fun acc h => q acc h.2.1 h.2.2) (fun d ls acc R h hR => ?_) ds [] ⟨fun _ h => h, by rw [List.length_nil, Nat.zero_add]; exact Nat.le_refl _, fun _ h => (nomatch h)⟩
  refine hs d (h.1 d List.mem_cons_self) (fun o => R (match o with | some x => acc ++ [x] | none => acc)) fun o ho => hR _ ⟨fun z hz => h.1 z (List.mem_cons_of_mem _ hz), ?_, fun z hz => ?_⟩
  · have := h.2.1
    rw [List.length_cons] at this
    cases o with
    | none => show acc.length + _ ≤ _; omega
    | some x =>
      show (acc ++ [x]).length + _ ≤ _
      rw [List.length_append, List.length_singleton]
      omega
  · cases o with
    | none => exact h.2.2 z hz
    | some x =>
      rcases List.mem_append.mp hz with t | t
      · exact h.2.2 z t
      · rw [List.mem_singleton] at t
        rw [t]; exact ho x rfl
/-- data that are ints -/
theorem ints_of {P : Int → Prop} : ∀ {ds : List PyData}, (∀ d ∈ ds, ∃ i, d = .int i ∧ P i) → ∃ ns : List Int, ds = ns.map .int ∧ ∀ n ∈ ns, P n
  | [], _ => ⟨[], rfl, fun _ h => (nomatch h)⟩
  | d :: ds, h => by
    obtain ⟨ns, e, q⟩ := ints_of fun x hx => h x (List.mem_cons_of_mem _ hx)
    obtain ⟨i, e2, q2⟩ := h d List.mem_cons_self
    refine ⟨i :: ns, by rw [e, e2]; rfl, fun n hn => ?_⟩
    rcases List.mem_cons.mp hn with z | z
    · rw [z]; exact q2
    · exact q n z
/-- .. of ints, as a function of the int -/
theorem lcGo_ints {mg : MG} {me : M} {e : En} {Q : List PyData → Prop} (f : Int → PyData) : ∀ (ns : List Int) (acc : List PyData), (∀ n ∈ ns, ∀ R : PyData → Prop, R (f n) → mg (.d (.int n)) e fun e1 => me e1 fun u => match u with
      | .d x => R x
      | _ => False) → Q (acc ++ ns.map f) → lcGo mg mYes me e Q (ns.map .int) acc
  | [], acc, hs, q => by rw [List.map_nil, List.append_nil] at q; exact q
  | n :: ns, acc, hs, q => hs n List.mem_cons_self (fun x => lcGo mg mYes me e Q (ns.map .int) (acc ++ [x])) (lcGo_ints f ns _ (fun m hm => hs m (List.mem_cons_of_mem _ hm)) (by rw [List.append_assoc]; exact q))
/-- .. of things that data are made of -/
theorem lcGo_fun {α : Type} {mg : MG} {me : M} {e : En} {Q : List PyData → Prop} (g f : α → PyData) : ∀ (ns : List α) (acc : List PyData), (∀ n ∈ ns, ∀ R : PyData → Prop, R (f n) → mg (.d (g n)) e fun e1 => me e1 fun u => match u with
      | .d x => R x
      | _ => False) → Q (acc ++ ns.map f) → lcGo mg mYes me e Q (ns.map g) acc
  | [], acc, hs, q => by rw [List.map_nil, List.append_nil] at q; exact q
  | n :: ns, acc, hs, q => hs n List.mem_cons_self (fun x => lcGo mg mYes me e Q (ns.map g) (acc ++ [x])) (lcGo_fun g f ns _ (fun m hm => hs m (List.mem_cons_of_mem _ hm)) (by rw [List.append_assoc]; exact q))
end Fd

set_option Elab.async false
set_option linter.all false
set_option maxRecDepth 100000
set_option maxHeartbeats 400000
/-! Fd, part J: sizes, texts, divisors: plain lemmas for the laws. -/
namespace Fd
open PySem PySem.Spec PyProof.Rows L2
theorem cml {i j : Int} (h : -(2 ^ 64) < i) (h' : i < 2 ^ 64) : CMl i j := .inl (.inl ⟨h, h'⟩)
theorem cmr {i j : Int} (h : -(2 ^ 64) < j) (h' : j < 2 ^ 64) : CMl i j := .inl (.inr ⟨h, h'⟩)
theorem log2_lt {n k : Nat} (h : n < 2 ^ k) (hk : 0 < k) : n.log2 < k := by
  rcases Nat.eq_zero_or_pos n with z | z
  · subst z; simpa using hk
  · exact (Nat.log2_lt (by omega)).mpr h
theorem cdv {i j : Int} (h : 0 < j) (h' : j < 2 ^ 64) : CDv i j := by
  refine ⟨h, Nat.lt_of_lt_of_le (log2_lt (n := j.natAbs) (k := 64) ?_ (by decide)) (by decide)⟩
  have : (j.natAbs : Int) = j := by omega
  have h2 : ((2 ^ 64 : Nat) : Int) = 2 ^ 64 := by decide
  omega
/-- a display that can be shown: no longer than s, no deeper than k -/
structure Sh (s k : Nat) (d : PyData) : Prop where
  plain : d.plain = true
  able : d.showable = true
  deep : d.depth ≤ k
  size : d.shown.length ≤ s
theorem Sh.le {s s' k k' : Nat} {d : PyData} (h : Sh s k d) (hs : s ≤ s') (hk : k ≤ k') : Sh s' k' d := ⟨h.plain, h.able, Nat.le_trans h.deep hk, Nat.le_trans h.size hs⟩
theorem Sh.shows {s k : Nat} {d : PyData} (h : Sh s k d) (hs : s ≤ 1000000) (hk : k ≤ 60) : Shows d := ⟨h.plain, h.able, Nat.le_trans h.deep hk, Nat.le_trans h.size hs⟩
theorem sh_int {i : Int} (h : -(10 ^ 40) < i) (h' : i < 10 ^ 40) : Sh 41 0 (.int i) where
  plain := by simp only [PyData.plain]
  able := by
    have : i.natAbs < 10 ^ 40 := by omega
    have l := log2_lt (n := i.natAbs) (k := 140) (Nat.lt_trans this (by decide)) (by decide)
    simp only [PyData.showable, decide_eq_true_eq]
    omega
  deep := by simp only [PyData.depth, Nat.le_refl]
  size := by
    simp only [PyData.shown]
    rw [PySem.ofString_length]
    exact int_text_length_le10 (a := i) (k := 40) (by decide) (by omega)
theorem sh_all {s k : Nat} : ∀ {ds : List PyData}, (∀ d ∈ ds, Sh s k d) → PyData.plainAll ds = true ∧ PyData.showableAll ds = true ∧ PyData.depthAll ds ≤ k ∧ ((PyData.shownAll ds).map (·.length)).sum ≤ ds.length * s ∧ (PyData.shownAll ds).length = ds.length
  | [], _ => ⟨by simp only [PyData.plainAll], by simp only [PyData.showableAll], by simp only [PyData.depthAll, Nat.zero_le], by simp [PyData.shownAll], by simp [PyData.shownAll]⟩
  | d :: ds, h => by
    obtain ⟨a, b, c, e, f⟩ := sh_all fun x hx => h x (List.mem_cons_of_mem _ hx)
    have q := h d List.mem_cons_self
    refine ⟨by simp only [PyData.plainAll, q.plain, a, Bool.and_self], by simp only [PyData.showableAll, q.able, b, Bool.and_self], ?_, ?_, ?_⟩
    · have := q.deep
      simp only [PyData.depthAll]
      omega
    · have := q.size
      simp only [PyData.shownAll, List.map_cons, List.sum_cons, List.length_cons, Nat.succ_mul]
      omega
    · simp only [PyData.shownAll, List.length_cons, f]
theorem sh_list {s k : Nat} {ds : List PyData} (h : ∀ d ∈ ds, Sh s k d) : Sh (ds.length * (s + 2) + 3) (k + 1) (.list ds) := by
  obtain ⟨a, b, c, e, f⟩ := sh_all h
  refine ⟨by simp only [PyData.plain, a], by simp only [PyData.showable, b], ?_, ?_⟩
  · simp only [PyData.depth]
    omega
  · have := listText_len_le (PyData.shownAll ds)
    rw [f] at this
    simp only [PyData.shown, Nat.mul_add]
    omega
theorem sh_tup {s k : Nat} {ds : List PyData} (h : ∀ d ∈ ds, Sh s k d) : Sh (ds.length * (s + 2) + 3) (k + 1) (.tuple ds) := by
  obtain ⟨a, b, c, e, f⟩ := sh_all h
  refine ⟨by simp only [PyData.plain, a], by simp only [PyData.showable, b], ?_, ?_⟩
  · simp only [PyData.depth]
    omega
  · have := tupleText_len_le (PyData.shownAll ds)
    rw [f] at this
    simp only [PyData.shown, Nat.mul_add]
    omega
theorem eqv_str (x : Str) : PyData.eqv (.str x) (.str x) = true := by simp [PyData.eqv]
theorem eqb_str (x y : Str) : EqB (.str x) (.str y) := ⟨by simp only [PyData.plain], by simp only [PyData.plain], by simp only [PyData.depth]; decide⟩
theorem eqb_int (x y : Int) : EqB (.int x) (.int y) := ⟨by simp only [PyData.plain], by simp only [PyData.plain], by simp only [PyData.depth]; decide⟩
theorem eqb_intT (x y : Int) : EqB (.int x) (.int y) = True := eq_true (eqb_int x y)
theorem eqb_strT (x y : Str) : EqB (.str x) (.str y) = True := eq_true (eqb_str x y)
theorem eqv_int (x y : Int) : PyData.eqv (.int x) (.int y) = decide (x = y) := by
  simp only [PyData.eqv]
  rfl
theorem plainAll_of : ∀ {ds : List PyData}, (∀ d ∈ ds, d.plain = true) → PyData.plainAll ds = true
  | [], _ => by simp only [PyData.plainAll]
  | d :: ds, h => by simp only [PyData.plainAll, h d List.mem_cons_self, plainAll_of fun x hx => h x (List.mem_cons_of_mem _ hx), Bool.and_self]
theorem plain_int (i : Int) : (PyData.int i).plain = true := by simp only [PyData.plain]
theorem plain_tup {ds : List PyData} (h : ∀ d ∈ ds, d.plain = true) : (PyData.tuple ds).plain = true := by simp only [PyData.plain, plainAll_of h]
theorem plain_list {ds : List PyData} (h : ∀ d ∈ ds, d.plain = true) : (PyData.list ds).plain = true := by simp only [PyData.plain, plainAll_of h]
theorem eqb_nil {ds : List PyData} (h : ∀ d ∈ ds, d.plain = true) : EqB (.list ds) (.list []) := ⟨plain_list h, plain_list (fun _ z => (nomatch z)), by simp only [PyData.depth, PyData.depthAll]; omega⟩
theorem eqv_nil (ds : List PyData) : PyData.eqv (.list ds) (.list []) = ds.isEmpty := by
  cases ds with
  | nil => simp [PyData.eqv, PyData.eqvAll]
  | cons d ds => simp [PyData.eqv, PyData.eqvAll]
theorem eqb_nilT {ds : List PyData} (h : ∀ d ∈ ds, d.plain = true) : EqB (.tuple ds) (.tuple []) := ⟨plain_tup h, plain_tup (fun _ z => (nomatch z)), by simp only [PyData.depth, PyData.depthAll]; omega⟩
theorem eqv_nilT (ds : List PyData) : PyData.eqv (.tuple ds) (.tuple []) = ds.isEmpty := by
  cases ds with
  | nil => simp [PyData.eqv, PyData.eqvAll]
  | cons d ds => simp [PyData.eqv, PyData.eqvAll]
/-- the greatest common divisor of ints -/
def gcdF (g n : Int) : Int := ((Int.gcd g n : Nat) : Int)
def gcdL (ns : List Int) : Int := ns.foldl gcdF 0
theorem gcdF_nn (g n : Int) : 0 ≤ gcdF g n := Int.natCast_nonneg _
theorem gcd_step {a b : Int} (h : 0 < b) (ha : 0 ≤ a) : Int.gcd b (a % b) = Int.gcd a b := by
  have e1 : a = ((a.toNat : Nat) : Int) := by omega
  have e2 : b = ((b.toNat : Nat) : Int) := by omega
  rw [e1, e2, ← Int.natCast_emod]
  show Nat.gcd b.toNat (a.toNat % b.toNat) = Nat.gcd a.toNat b.toNat
  rw [Nat.gcd_comm a.toNat, Nat.gcd_rec b.toNat a.toNat, Nat.gcd_comm]
theorem foldl_nn : ∀ (ns : List Int) (g : Int), 0 ≤ g → 0 ≤ ns.foldl gcdF g
  | [], g, h => h
  | n :: ns, g, h => foldl_nn ns _ (gcdF_nn g n)
theorem gcdL_nn (ns : List Int) : 0 ≤ gcdL ns := foldl_nn ns 0 (Int.le_refl 0)
theorem foldl_dvd : ∀ (ns : List Int) (g : Int), ns.foldl gcdF g ∣ g ∧ ∀ n ∈ ns, ns.foldl gcdF g ∣ n
  | [], g => ⟨Int.dvd_refl g, fun _ h => nomatch h⟩
  | m :: ns, g => by
    obtain ⟨a, b⟩ := foldl_dvd ns (gcdF g m)
    refine ⟨Int.dvd_trans a (Int.gcd_dvd_left ..), fun n hn => ?_⟩
    rcases List.mem_cons.mp hn with z | z
    · rw [z]; exact Int.dvd_trans a (Int.gcd_dvd_right ..)
    · exact b n z
theorem gcdL_dvd {ns : List Int} {n : Int} (h : n ∈ ns) : gcdL ns ∣ n := (foldl_dvd ns 0).2 n h
theorem gcdL_zero {ns : List Int} (h : gcdL ns = 0) : ∀ n ∈ ns, n = 0 := fun n hn => by
  have := gcdL_dvd hn
  rw [h] at this
  exact Int.zero_dvd.mp this
theorem gcdL_le {ns : List Int} {b : Int} (hb : 0 ≤ b) (h : ∀ n ∈ ns, 0 ≤ n ∧ n ≤ b) : gcdL ns ≤ b := by
  by_cases z : ∃ n ∈ ns, n ≠ 0
  · obtain ⟨n, hn, nz⟩ := z
    have := Int.le_of_dvd (by have := h n hn; omega) (gcdL_dvd hn)
    have := h n hn
    omega
  · have all : ∀ (l : List Int), (∀ n ∈ l, n = 0) → l.foldl gcdF 0 = 0 := fun l => by
      induction l with
      | nil => intro _; rfl
      | cons m l ih =>
        intro hm
        have e := hm m List.mem_cons_self
        subst e
        show l.foldl gcdF (gcdF 0 0) = 0
        have e0 : gcdF 0 0 = 0 := by decide
        rw [e0]
        exact ih fun n hn => hm n (List.mem_cons_of_mem _ hn)
    have e : gcdL ns = 0 := all ns fun n hn => Classical.byContradiction fun q => z ⟨n, hn, q⟩
    rw [e]; exact hb
theorem foldl_mul (c : Int) (hc : 0 ≤ c) : ∀ (ns : List Int) (g : Int), (ns.map (c * ·)).foldl gcdF (c * g) = c * ns.foldl gcdF g
  | [], g => rfl
  | n :: ns, g => by
    have e : gcdF (c * g) (c * n) = c * gcdF g n := by
      unfold gcdF
      rw [Int.gcd_mul_left, Int.natCast_mul]
      have : ((c.natAbs : Nat) : Int) = c := by omega
      rw [this]
    rw [List.map_cons, List.foldl_cons, e, foldl_mul c hc ns, List.foldl_cons]
theorem gcdL_mul {c : Int} (hc : 0 ≤ c) (ns : List Int) : gcdL (ns.map (c * ·)) = c * gcdL ns := by
  have := foldl_mul c hc ns 0
  rw [Int.mul_zero] at this
  exact this
/-- without a common divisor -/
def redu (ns : List Int) : List Int := ns.map (· / max 1 (gcdL ns))
theorem redu_mul {c : Int} (hc : 0 < c) (ns : List Int) : redu (ns.map (c * ·)) = redu ns := by
  unfold redu
  rw [gcdL_mul (by omega), List.map_map]
  refine List.map_congr_left fun n hn => ?_
  show c * n / max 1 (c * gcdL ns) = n / max 1 (gcdL ns)
  have nn := gcdL_nn ns
  rcases Int.lt_or_eq_of_le nn with z | z
  · have h1 : max 1 (gcdL ns) = gcdL ns := by omega
    have h2 : 1 ≤ c * gcdL ns := Int.mul_pos hc z
    have h3 : max 1 (c * gcdL ns) = c * gcdL ns := by omega
    rw [h1, h3, Int.mul_ediv_mul_of_pos _ _ hc]
  · have := gcdL_zero z.symm n hn
    subst this
    simp
theorem redu_zero {ns : List Int} (h : gcdL ns = 0) : redu ns = ns := by
  unfold redu
  rw [h]
  have e : (max 1 0 : Int) = 1 := by decide
  rw [e]
  have : (fun x : Int => x / 1) = id := funext fun x => Int.ediv_one x
  rw [this, List.map_id]
/-! ### what the meanings say of what is known -/
section
variable {u : U} {Q : U → Prop} {ds es : List PyData} {L : Kd → List PyData → Prop} {i j : Int} {o : Option (Option Sl)}
theorem getV_v : getV (some (some (.val u))) Q = Q u := rfl
theorem getL_v : getL (some (some (.val u))) L = onSq L u := rfl
theorem getL_o : getL (some (some (.own ds))) L = L .lst ds := rfl
theorem onSq_l : onSq L (.d (.list ds)) = L .lst ds := rfl
theorem onSq_t : onSq L (.d (.tuple ds)) = L .tup ds := rfl
theorem onSq_s : onSq L (.scr ds) = L .scr ds := rfl
theorem onI_i {Q : Int → Prop} : onI Q (.d (.int i)) = Q i := rfl
theorem onIB_i {Q : Int → Prop} : onIB Q (.d (.int i)) = Q i := rfl
theorem onIB_b {Q : Int → Prop} {b : Bool} : onIB Q (.d (.bool b)) = Q (if b = true then 1 else 0) := by cases b <;> rfl
theorem onB_b {Q : Bool → Prop} {b : Bool} : onB Q (.d (.bool b)) = Q b := rfl
theorem onD_d {Q : PyData → Prop} {d : PyData} : onD Q (.d d) = Q d := rfl
theorem onOwn_o {Q : List PyData → Prop} : onOwn (some (some (.own ds))) Q = Q ds := rfl
theorem onShow_d {Q : PyData → Prop} {d : PyData} : onShow Q (.d d) = (Shows d ∧ Q d) := rfl
theorem gI_i {f : Int → Int → (U → Prop) → Prop} : gI f (.d (.int i)) (.d (.int j)) Q = f i j Q := rfl
theorem gAdd_i : gAdd (.d (.int i)) (.d (.int j)) Q = Q (.d (.int (i + j))) := rfl
theorem gAdd_l : gAdd (.d (.list ds)) (.d (.list es)) Q = (Fits (ds.length + es.length) ∧ Q (.d (.list (ds ++ es)))) := rfl
theorem gAdd_t : gAdd (.d (.tuple ds)) (.d (.tuple es)) Q = (Fits (ds.length + es.length) ∧ Q (.d (.tuple (ds ++ es)))) := rfl
theorem gAdd_s {x y : Str} : gAdd (.d (.str x)) (.d (.str y)) Q = (Fits (x.length + y.length) ∧ Q (.d (.str (x ++ y)))) := rfl
theorem gMul_i : gMul (.d (.int i)) (.d (.int j)) Q = (CMl i j ∧ Q (.d (.int (i * j)))) := rfl
theorem gMul_l : gMul (.d (.list ds)) (.d (.int j)) Q = (RepB ds.length j ∧ Q (.d (.list (List.replicate j.toNat ds).flatten))) := rfl
theorem gMul_t : gMul (.d (.tuple ds)) (.d (.int j)) Q = (RepT ds.length j ∧ Q (.d (.tuple (List.replicate j.toNat ds).flatten))) := rfl
theorem gAdd_b {b : Bool} : gAdd (.d (.bool b)) (.d (.int j)) Q = Q (.d (.int ((if b = true then 1 else 0) + j))) := rfl
theorem gSb_i : gSb (.d (.int i)) (.d (.int j)) Q = Q (.d (.int (i - j))) := rfl
theorem gSb_b {b : Bool} : gSb (.d (.bool b)) (.d (.int j)) Q = Q (.d (.int ((if b = true then 1 else 0) - j))) := rfl
theorem gEq_d {neg : Bool} {x y : PyData} : gEq neg (.d x) (.d y) Q = (EqB x y ∧ Q (.d (.bool (if neg = true then !PyData.eqv x y else PyData.eqv x y)))) := rfl
theorem mgCons_c {m : MG} {mr : MGs} {d : PyData} {e : En} {R : En → Prop} : mgCons m mr (d :: ds) e R = m (.d d) e fun e' => mr ds e' R := rfl
theorem mgTup_t {n : Nat} {mr : MGs} {e : En} {R : En → Prop} : mgTup n mr (.d (.tuple ds)) e R = (ds.length = n ∧ mr ds e R) := rfl
theorem mFreeze_o {k : Nat} {m : MS} {e : En} {t : Kt} (h : e[k]? = some (some (.own ds))) : mFreeze k m e t = m (e.set k (some (.val (.d (.list ds))))) t := by unfold mFreeze; rw [h]
end
theorem rngD_len (lo hi : Int) : (rngD lo hi).length = (hi - lo).toNat := by
  unfold rngD
  rw [List.length_map, List.length_range]
theorem rngD_mem {lo hi : Int} {d : PyData} (h : d ∈ rngD lo hi) : ∃ i, d = .int i ∧ lo ≤ i ∧ i < hi := by
  unfold rngD at h
  obtain ⟨n, hn, rfl⟩ := List.mem_map.mp h
  rw [List.mem_range] at hn
  exact ⟨_, rfl, by omega, by omega⟩
/-- data that are made of things -/
theorem maps_of {α : Type} {g : α → PyData} {P : α → Prop} : ∀ {ds : List PyData}, (∀ d ∈ ds, ∃ a, d = g a ∧ P a) → ∃ ls : List α, ds = ls.map g ∧ ∀ a ∈ ls, P a
  | [], _ => ⟨[], rfl, fun _ h => (nomatch h)⟩
  | d :: ds, h => by
    obtain ⟨ns, e, q⟩ := maps_of fun x hx => h x (List.mem_cons_of_mem _ hx)
    obtain ⟨i, e2, q2⟩ := h d List.mem_cons_self
    refine ⟨i :: ns, by rw [e, e2]; rfl, fun n hn => ?_⟩
    rcases List.mem_cons.mp hn with z | z
    · rw [z]; exact q2
    · exact q n z
theorem get_ints {r : List Int} {i : Nat} (h : i < r.length) : (r.map PyData.int)[i]? = some (.int (r.getD i 0)) := by
  rw [List.getElem?_map, List.getElem?_eq_getElem h, Option.map_some, List.getD_eq_getElem?_getD, List.getElem?_eq_getElem h, Option.getD_some]
theorem getD_mem {r : List Int} {i : Nat} (h : i < r.length) : r.getD i 0 ∈ r := by
  rw [List.getD_eq_getElem?_getD, List.getElem?_eq_getElem h, Option.getD_some]
  exact List.getElem_mem h
/-- one of some ints -/
theorem pick {P : Int → Prop} {ds : List PyData} (ns : List Int) (e : ds = ns.map .int) (h : ∀ n ∈ ns, P n) : ∀ d ∈ ds, ∃ i, d = .int i ∧ P i := fun d hd => by
  subst e
  obtain ⟨n, hn, rfl⟩ := List.mem_map.mp hd
  exact ⟨n, rfl, h n hn⟩
theorem sum_pos : ∀ (r : List Int), 0 < r.sum → ∃ x ∈ r, 0 < x
  | [], h => absurd h (by decide)
  | x :: xs, h => by
    by_cases hx : 0 < x
    · exact ⟨x, List.mem_cons_self, hx⟩
    · rw [List.sum_cons] at h
      obtain ⟨y, hy, y0⟩ := sum_pos xs (by omega)
      exact ⟨y, List.mem_cons_of_mem _ hy, y0⟩
theorem foldl_max_ge : ∀ (ns : List Int) (a : Int), a ≤ ns.foldl max a ∧ ∀ n ∈ ns, n ≤ ns.foldl max a
  | [], a => ⟨Int.le_refl a, fun _ h => (nomatch h)⟩
  | m :: ns, a => by
    obtain ⟨h1, h2⟩ := foldl_max_ge ns (max a m)
    rw [List.foldl_cons]
    refine ⟨by omega, fun n hn => ?_⟩
    rcases List.mem_cons.mp hn with z | z
    · omega
    · exact h2 n z
theorem bigOf_ge {ns : List Int} {n : Int} (h : n ∈ ns) : n ≤ bigOf ns := by
  cases ns with
  | nil => cases h
  | cons m ns =>
    obtain ⟨h1, h2⟩ := foldl_max_ge ns m
    rcases List.mem_cons.mp h with z | z
    · rw [z]; exact h1
    · exact h2 n z
theorem foldl_max_le {b : Int} : ∀ (ns : List Int) (a : Int), a ≤ b → (∀ n ∈ ns, n ≤ b) → ns.foldl max a ≤ b
  | [], a, h, _ => h
  | m :: ns, a, h, hn => foldl_max_le ns _ (by have := hn m List.mem_cons_self; omega) fun n z => hn n (List.mem_cons_of_mem _ z)
theorem bigOf_le {ns : List Int} {b : Int} (h0 : ns ≠ []) (h : ∀ n ∈ ns, n ≤ b) : bigOf ns ≤ b := by
  cases ns with
  | nil => exact absurd rfl h0
  | cons m ns => exact foldl_max_le ns m (h m List.mem_cons_self) fun n z => h n (List.mem_cons_of_mem _ z)
theorem rngD_nat (n : Nat) : rngD 0 (n : Int) = (List.range n).map fun i : Nat => PyData.int (0 + (i : Int)) := by
  unfold rngD
  rw [Int.sub_zero, Int.toNat_natCast]
theorem zipD_map {α β : Type} (f : α → PyData) (g : β → PyData) (ls : List α) (ms : List β) : zipD (ls.map f) (ms.map g) = (ls.zip ms).map fun p => PyData.tuple [f p.1, g p.2] := by
  unfold zipD
  rw [List.zip_map, List.map_map]
  rfl
/-- the steps of a rising row -/
def stepsL (a : Int) (ls : List Int) (w : Int) : List Int := ((a :: ls).zip (ls ++ [w])).map fun p => p.2 - p.1
theorem stepsL_len : ∀ (ls : List Int) (a w : Int), (stepsL a ls w).length = ls.length + 1
  | [], a, w => rfl
  | x :: xs, a, w => by
    show (stepsL x xs w).length + 1 = _
    rw [stepsL_len xs, List.length_cons]
theorem stepsL_sum : ∀ (ls : List Int) (a w : Int), (stepsL a ls w).sum = w - a
  | [], a, w => by
    show (w - a) + 0 = w - a
    omega
  | x :: xs, a, w => by
    show (x - a) + (stepsL x xs w).sum = _
    rw [stepsL_sum xs]
    omega
theorem stepsL_mem : ∀ (ls : List Int) (a w : Int), 0 ≤ a → a ≤ w → ls.Pairwise (· ≤ ·) → (∀ l ∈ ls, a ≤ l ∧ l ≤ w) → ∀ n ∈ stepsL a ls w, 0 ≤ n ∧ n ≤ w
  | [], a, w, h0, h1, _, _, n, hn => by
    have hn : n ∈ [w - a] := hn
    rw [List.mem_singleton] at hn
    omega
  | x :: xs, a, w, h0, h1, hp, hm, n, hn => by
    have hn : n ∈ (x - a) :: stepsL x xs w := hn
    have hx := hm x List.mem_cons_self
    rcases List.mem_cons.mp hn with z | z
    · omega
    · rw [List.pairwise_cons] at hp
      exact stepsL_mem xs x w (by omega) hx.2 hp.2 (fun l hl => ⟨hp.1 l hl, (hm l (List.mem_cons_of_mem _ hl)).2⟩) n z
/-- three ints that are a fold -/
theorem atI_nat {ds : List PyData} {i : Int} {d : PyData} {n : Nat} (hi : i = (n : Int)) (h : ds[n]? = some d) : atI ds i = some d := by
  subst hi
  have hl : n < ds.length := by
    rcases Nat.lt_or_ge n ds.length with q | q
    · exact q
    · rw [List.getElem?_eq_none q] at h; cases h
  unfold atI
  have : ixN ds.length (n : Int) = some n := by
    unfold ixN
    rw [if_pos (by omega), if_pos (by omega)]
    rfl
  rw [this]
  exact h
end Fd

set_option Elab.async false
set_option linter.all false
set_option maxRecDepth 100000
set_option maxHeartbeats 4000000
/-! Fd, part K: enumerate over a list or a tuple; isinstance; more operators. -/
namespace Fd
open PySem PySem.Spec PyProof.Rows L2
open AutoSeq1 (wpAny_loadPart')
/-! ### enumerate -/
theorem meets_enum1 {v : Value} {ob : Obj} {Hh : Heap → Prop} (Bg : Begins v ob Hh) : Meets (Builtin.«enumerate.__new__» ⟨[.type "enumerate", v], []⟩) (fun _ R s => Hh s.heap ∧
    R (.ok (.ret (.ref (s.heap.push ob).objs.size))) { s with heap := (s.heap.push ob).push { cls := .type "enumerate", data := .fields #[.none, .bool false, .ref s.heap.objs.size, rawInt 0, .none, .none] } }) :=
  .of_wp fun pr wo A R s hs => by
    obtain ⟨hp, ge, dr, tk, os⟩ := s
    obtain ⟨hh, hr⟩ := hs
    have subE := sub_enumerate
    have begin_ : ∀ {A' : Around} {E : Value → Shared → Prop} {Q : Value → Shared → Prop}, Q (.ref hp.objs.size) ⟨hp.push ob, ge, dr, tk, os⟩ → wpAny (model pr wo) A' (pyIter v) Q E ⟨hp, ge, dr, tk, os⟩ :=
      fun q => Bg.iter pr wo _ _ ⟨hp, ge, dr, tk, os⟩ _ hh q
    wp_walk using begin_
    refine wpAny_stack_any fun stk => wpAny_pure ?_
    split
    · rename_i cl _ _ _ _ _
      cases (cl == Value.type "enumerate")
      all_goals
        wp_walk using begin_
        exact ⟨_, rfl, hr⟩
    · wp_walk using begin_
      exact ⟨_, rfl, hr⟩
theorem call_enum1 {pr : Program} {wo : World} {A : Around} {E : Value → Shared → Prop} {s : Shared} {v : Value} {ob : Obj} {Hh : Heap → Prop} {Q : Value → Shared → Prop} (Bg : Begins v ob Hh) (hh : Hh s.heap)
    (k : ∀ h', IsEnum h' (s.heap.objs.size + 1) s.heap.objs.size 0 .none → h'.get? s.heap.objs.size = some ob → h'.objs.size = s.heap.objs.size + 2 →
      (∀ b o, s.heap.get? b = some o → h'.get? b = some o) → Q (.ref (s.heap.objs.size + 1)) { s with heap := h' }) :
    wpAny (model pr wo) A (call (.type "enumerate") [v]) Q E s := by
  refine callType_new F.called_enumerate (by decide) (F.typeCall_enumerate_1 _) (F.newCall_enumerate_1 _) (fun obj => F.args_object_init_2 obj _) F.entry_enumerate_new (meets_enum1 Bg) ⟨hh, ?_⟩
  have sz : (s.heap.push ob).objs.size = s.heap.objs.size + 1 := Heap.size_push ..
  show _ ∧ _
  rw [sz]
  have en : IsEnum ((s.heap.push ob).push { cls := .type "enumerate", data := .fields #[.none, .bool false, .ref s.heap.objs.size, rawInt 0, .none, .none] }) (s.heap.objs.size + 1) s.heap.objs.size 0 .none := by
    have z := Heap.get?_push_size (s.heap.push ob) (o := { cls := .type "enumerate", data := .fields #[.none, .bool false, .ref s.heap.objs.size, rawInt 0, .none, .none] }) rfl
    rw [sz] at z
    exact z
  exact ⟨⟨_, en, rfl⟩, k _ en (Heap.get?_push_of_some _ (Heap.get?_push_size _ Bg.free)) (by rw [Heap.size_push, sz]) fun b o z => Heap.get?_push_of_some _ (Heap.get?_push_of_some _ z)⟩
/-- the tuple at a, each item in a new pair behind its place -/
def ItEt (K : PySem.W.Frag) (a : Addr) : It :=
  ⟨fun i H => ∃ (xs : List V) (x : V), SqT K H a xs ∧ xs[i]? = some x, fun i H v H' => ∃ T x, v = .ref T ∧ H T = none ∧ H' = upd H T (.tup [.int (i : Nat), x]) ∧ ∀ xs, SqT K H a xs → xs[i]? = some x, fun i H => ∃ xs : List V, SqT K H a xs ∧ xs.length ≤ i⟩
theorem turn_enumT {P : Program} {w : World} {K : PySem.W.Frag} {elts : List Expr} {kk : Nat} {tpos : Pos} (a e it : Addr) :
    Turn P w K (.Tuple elts kk tpos) (ItEt K a) [e, it] e (fun i h => (∃ old, IsEnum h e it ((i : Nat) : Int) old) ∧ h.IsTupleIter it a i ∧ e ≠ it ∧ a ≠ it ∧ e ≠ a) where
  mem := List.mem_cons_self
  obj := fun i h st b hb => by
    obtain ⟨⟨old, he⟩, ⟨o, ho, hc, hd⟩, _⟩ := st
    rcases List.mem_cons.mp hb with z | z
    · rw [z]
      exact ⟨_, he, fun v q => nomatch q⟩
    · rw [List.mem_singleton.mp z]
      refine ⟨o, ho, fun v q => ?_⟩
      rw [hd] at q
      cases q
  keep := fun i h h' st k => by
    obtain ⟨⟨old, he⟩, hi, r⟩ := st
    exact ⟨⟨old, k e List.mem_cons_self _ he⟩, hi.at fun o q => k it (by simp) o q, r⟩
  item := by
    intro X hP hw hK hc i pins s σ H E I hf st hg
    subst hP hw hK
    obtain ⟨⟨old, he⟩, hit, n1, n2, n3⟩ := st
    obtain ⟨xs, x, hq, hx⟩ := hg
    obtain ⟨its, rv, p, hz⟩ := I.tuple hq
    obtain ⟨u, hu, ru⟩ := rv.get hx
    have hel : e < s.heap.objs.size := Heap.lt_size he
    have hil : it < s.heap.objs.size := by
      obtain ⟨_, q, _⟩ := hit
      exact Heap.lt_size q
    have hlt : i < its.toArray.size := by
      rcases Nat.lt_or_ge i its.length with z | z
      · simpa using z
      · rw [List.getElem?_eq_none z] at hu; cases hu
    refine wpAny_pyNext_enum_itemD (Draws.tuple (A := X.A.in1) (show X.A.in1.handled = none from I.ok.hd hc) it a n2 its.toArray) he ⟨hit, p⟩ hlt n1 (by simp [n1, n3]) fun y h' tk hy ho hs' hT hsz hk => ?_
    have hy2 : y = u := by
      have hu2 : its.toArray[i]? = some u := by simpa using hu
      rw [hu2] at hy
      cases hy
      rfl
    subst hy2
    refine ⟨_, rfl, wpAny_letOwnedTupleGo_enum (s := { s with heap := h', toks := tk + 1 }) ho fun h'' he' sb => ?_⟩
    have hT2 : h''.get? s.heap.objs.size = some { cls := .type "tuple", data := .seq #[.int i tk, y] } := (sb.2 _ (Nat.ne_of_gt hel)).trans hT
    have new : ObjOk X.prog X.w (upd H s.heap.objs.size (.tup [.int (i : Nat), x])) h'' s.heap.objs.size (.tup [.int (i : Nat), x]) :=
      ⟨by show 2 ≤ sizeLine; decide, [.int i tk, y], .cons ⟨_, rfl⟩ (.cons ru .nil), ⟨_, hT2, rfl, _, rfl⟩⟩
    have I1 : Inv X pins σ (upd H s.heap.objs.size (.tup [.int (i : Nat), x])) { s with heap := h'', toks := tk + 1 } :=
      I.turnedNew (ch := [e, it]) (fun b ob hb q => (sb.2 b (fun z => hb (by simp [z]))).trans (hk b ob (fun z => hb (by simp [z])) (fun z => hb (by simp [z])) q)) hf (Nat.le_refl _) new
    refine ⟨.ref s.heap.objs.size, _, I1, rfl, ⟨_, x, rfl, I.hok.fresh (Nat.le_refl _), rfl, fun ys hy => ?_⟩, ⟨⟨y, ?_⟩, hs'.1.at fun o q => (sb.2 it (Ne.symm n1)).trans q, n1, n2, n3⟩, fun b hb => ?_⟩
    · rw [I.tuple_inj hy hq]
      exact hx
    · have e1 : ((i + 1 : Nat) : Int) = (i : Int) + 1 := by omega
      rw [e1]
      exact he'
    · have hb' : b < s.heap.objs.size := by
        rcases List.mem_cons.mp hb with z | z
        · rw [z]; exact hel
        · rw [List.mem_singleton.mp z]; exact hil
      rw [upd_ne (Nat.ne_of_lt hb')]
      exact (hf b hb).1
  done := by
    intro X hP hw hK hc i pins s σ H E I hf st hg
    subst hP hw hK
    obtain ⟨⟨old, he⟩, hit, n1, n2, n3⟩ := st
    obtain ⟨xs, hq, hx⟩ := hg
    obtain ⟨its, rv, p, hz⟩ := I.tuple hq
    obtain ⟨f0, f1, f2, f3, f4, f5⟩ := hf it (by simp)
    have hl := rv.length
    have hT : s.TypeIs (.ref e) "enumerate" := ⟨_, he, rfl⟩
    unfold pyNext
    refine wpAny_bind (wpAny_attempt (wpAny_callSpecial?_slot (name := Str.ofString "__next__") hT F.slot_enumerate_next (wpAny_call_entry F.slot_enumerate_next hT F.entry_enumerate_next ?_ (F.args_enumerate_next_1 _))))
    show wpAny _ _ (field (.ref e) 2 >>= _) _ _ _
    refine wpAny_bind (wpAny_field he rfl (x := .ref it) rfl ?_)
    refine wpAny_bind (wpAny_nextOf_tuple_end (I.ok.hd hc) hit p (by simp; omega) fun h' y eb hy => ?_)
    obtain ⟨o, ho, hcl⟩ := hy
    refine wpAny_bind (wpAny_isInstance (T := "StopIteration") (b := true) ⟨o, ho, hcl⟩ isSubtype_stop ?_)
    exact wpAny_pure ⟨rfl, I.turned (t' := s.toks) (fun b o hb q => eb b o hb q) f0 f1 f3 f4 f5⟩
  self := fun A i s Q E st h => by
    obtain ⟨⟨_, he⟩, _⟩ := st
    exact wpAny_pyIter_enum he h
def iEnumA (K : PySem.W.Frag) (ta : TA) : TI := fun σ H R => ta σ H fun vs H1 => ∃ a xs, vs = [.ref a] ∧ ((SqL K H1 a xs ∧ R (Ite K a) H1) ∨ (SqT K H1 a xs ∧ R (ItEt K a) H1))
theorem pi_enumA {X : Cx} {e : Expr} {ta : TA} {p pos tpos : Pos} {elts : List Expr} {kk : Nat} (hg : Gl X "enumerate") (hm : X.mg "enumerate" = none) (ha : PA X [e] ta) (hs : starEach [e] X.env = [(false, eval e X.env)] := by rfl) :
    PI X (.Tuple elts kk tpos) (.Call (.Name "enumerate" p) [e] [] pos) (iEnumA X.K ta) := by
  refine ⟨fun pins s σ H R I h => Call_ (ld_blt I hg hm boot_enumerate (PyProof.Rows.callWith_type1 (thn (ha.run pos pins s σ H _ I h) fun us s1 ⟨vs, H1, I1, r1, q1⟩ => ?_) hs rfl))⟩
  obtain ⟨a, xs, ex, q1⟩ := q1
  subst ex
  cases r1 with
  | cons r rr =>
    cases rr
    cases r
    have two : ∀ b ∈ [s1.heap.objs.size + 1, s1.heap.objs.size], FpOk X pins H1 b := fun b hb => by
      have hle : s1.heap.objs.size ≤ b := by
        rcases List.mem_cons.mp hb with z | z
        · rw [z]; exact Nat.le_add_right _ _
        · rw [List.mem_singleton.mp z]; exact Nat.le_refl _
      exact I1.fpOk hle (I1.hok.fresh hle)
    rcases q1 with ⟨hq, q⟩ | ⟨hq, q⟩
    · obtain ⟨its, rv, p', hz⟩ := I1.list hq
      refine call_enumerate_list p'.isList fun h' he hit hsz hk => wpAny_pyIter_enum he ?_
      exact ⟨s1.heap.objs.size + 1, [s1.heap.objs.size + 1, s1.heap.objs.size], _, _, H1, rfl, I1.kept (t' := s1.toks) hk, turn_enum a (s1.heap.objs.size + 1) s1.heap.objs.size, ⟨⟨.none, he⟩, hit, Nat.succ_ne_self _⟩, two, q⟩
    · obtain ⟨its, rv, p', hz⟩ := I1.tuple hq
      have hal : a < s1.heap.objs.size := by
        obtain ⟨o, ho, _⟩ := id p'
        exact Heap.lt_size ho
      refine call_enum1 (begins_tuple a its.toArray) p' fun h' he hit hsz hk => wpAny_pyIter_enum he ?_
      exact ⟨s1.heap.objs.size + 1, [s1.heap.objs.size + 1, s1.heap.objs.size], _, _, H1, rfl, I1.kept (t' := s1.toks) hk, turn_enumT a (s1.heap.objs.size + 1) s1.heap.objs.size, ⟨⟨.none, he⟩, ⟨_, hit, rfl, rfl⟩, Nat.succ_ne_self _, Nat.ne_of_lt hal, Nat.ne_of_gt (Nat.lt_succ_of_lt hal)⟩, two, q⟩
theorem walk_enumT {K : PySem.W.Frag} {a : Addr} {xs : List V} : Walk (ItEt K a) xs.length (fun H => SqT K H a xs) (YPair (fun i => some (.int (i : Nat))) (fun i => xs[i]?)) := by
  refine ⟨fun i _ hi q => ⟨xs, xs[i], q, List.getElem?_eq_getElem hi⟩, fun _ q => ⟨xs, q, Nat.le_refl _⟩, fun i H v H' _ q y => ?_⟩
  obtain ⟨T, x, k1, k2, k3, k4⟩ := y
  exact ⟨T, .int (i : Nat), x, k1, k2, k3, rfl, k4 xs q⟩
/-- the items behind their places -/
def enumD (ds : List PyData) : List PyData := zipD (rngD 0 (ds.length : Int)) ds
theorem enumD_len (ds : List PyData) : (enumD ds).length = ds.length := by
  unfold enumD
  rw [zipD_len, rngD_len]
  omega
theorem enumD_get {ds : List PyData} {i : Nat} {d : PyData} (h : (enumD ds)[i]? = some d) : ∃ x, ds[i]? = some x ∧ d = .tuple [.int (i : Int), x] := by
  unfold enumD zipD at h
  rw [List.getElem?_map] at h
  cases q : ((rngD 0 (ds.length : Int)).zip ds)[i]? with
  | none => rw [q] at h; cases h
  | some pr =>
    rw [q] at h
    cases h
    obtain ⟨p1, p2⟩ := pr
    rw [List.getElem?_zip_eq_some, rngD_nat, List.getElem?_map] at q
    obtain ⟨q1, q2⟩ := q
    refine ⟨p2, q2, ?_⟩
    cases z : (List.range ds.length)[i]? with
    | none => rw [z] at q1; cases q1
    | some m =>
      rw [z] at q1
      have hm : m = i := by
        rw [List.getElem?_range (by
          rcases Nat.lt_or_ge i ds.length with t | t
          · exact t
          · rw [List.getElem?_eq_none t] at q2; cases q2)] at z
        cases z
        rfl
      subst hm
      have q1 : some (PyData.int (0 + (m : Int))) = some p1 := q1
      cases q1
      rw [Int.zero_add]
section
variable {X : Cx} {B : Bs} {K : PySem.W.Frag} {a : Expr} {m : M} {ml : ML} {pos p tpos : Pos} {elts : List Expr} {kk : Nat}
theorem yld_enum {G H H' : Hp} {vs : List V} {ds : List PyData} {i : Nat} {x : V} {d : PyData} (h1 : Dats K G vs ds) (y : YPair (fun i => some (.int (i : Nat))) (fun i => vs[i]?) i H x H') (e : (enumD ds)[i]? = some d) : Yld K G H x H' d := by
  obtain ⟨T, u, w, e1, e2, e3, e4, e5⟩ := y
  obtain ⟨z, hz, rfl⟩ := enumD_get e
  obtain ⟨v, k1, k2⟩ := h1.get hz
  have z1 : some (V.int (i : Nat)) = some u := e4
  have z2 : some v = some w := k1.symm.trans e5
  cases z1
  cases z2
  exact .inr ⟨T, [.int (i : Nat), w], [.int (i : Int), z], e2, e3, e1, rfl, .cons (.int _) (.cons k2 .nil)⟩
theorem wk_enumL {G : Hp} {a : Addr} {vs : List V} {ds : List PyData} {C : Hp → Prop} (h : ∀ H, C H → SqL K H a vs) (d : Dats K G vs ds) : WkD K G (Ite K a) (enumD ds) C :=
  ⟨_, by rw [enumD_len, ← d.len]; exact walk_enum.mono (fun H c => h H c) fun i H x H' _ _ y => y, fun i H x H' dd _ y e => yld_enum d y e⟩
theorem wk_enumT {G : Hp} {a : Addr} {vs : List V} {ds : List PyData} {C : Hp → Prop} (h : ∀ H, C H → SqT K H a vs) (d : Dats K G vs ds) : WkD K G (ItEt K a) (enumD ds) C :=
  ⟨_, by rw [enumD_len, ← d.len]; exact walk_enumT.mono (fun H c => h H c) fun i H x H' _ _ y => y, fun i H x H' dd _ y e => yld_enum d y e⟩
theorem xi_enum (ha : XL X B a ml fa) (hm : X.mg "enumerate" = none) (hg : Gl X "enumerate" := by rfl) (hs : starEach [a] X.env = [(false, eval a X.env)] := by rfl) (hs2 : starEach [a] X.env = (false, eval a X.env) :: starEach [] X.env := by rfl) :
    XI X B (.Tuple elts kk tpos) (.Call (.Name "enumerate" p) [a] [] pos) (fun e Q => ml e fun _ ds => Q (enumD ds)) fa :=
  ⟨fun e P P' hh q => ha.mono e _ _ (fun k ds q => hh _ q) q, piW (pi_enumA hg hm (one_arg ha.pe hs2) hs) fun σ H R ⟨e, G, bq, r, hh⟩ => ha.go r hh fun k ds q v H1 G1 r1 x1 d1 => by
    obtain ⟨a1, vs, e1, dd1, w1, w2⟩ := d1.lt r1.sub r1.gpot
    subst e1
    refine ⟨a1, vs, rfl, ?_⟩
    by_cases hk : k = .tup
    · exact .inr ⟨w2 hk H1 .refl, q _ H1 G1 r1 x1 (wk_enumT (w2 hk) dd1)⟩
    · exact .inl ⟨w1 hk H1 .refl, q _ H1 G1 r1 x1 (wk_enumL (w1 hk) dd1)⟩⟩
theorem xf_enum (ha : XQ X B a ml fa) (hm : X.mg "enumerate" = none) (hg : Gl X "enumerate" := by rfl) (hs : starEach [a] X.env = [(false, eval a X.env)] := by rfl) (hs2 : starEach [a] X.env = (false, eval a X.env) :: starEach [] X.env := by rfl) :
    XF X B (.Tuple elts kk tpos) (.Call (.Name "enumerate" p) [a] [] pos) (fun e Q => ml e fun _ ds => Q (enumD ds)) fa :=
  ⟨fun e P P' hh q => ha.mono e _ _ (fun k ds q => hh _ q) q, piW (pi_enumA hg hm (one_arg ha.pe hs2) hs) fun σ H R ⟨e, G, bq, r, hh⟩ => ha.go r hh fun k ds q v H1 G1 r1 x1 d1 => by
    obtain ⟨a1, vs, e1, dd1, w1, w2⟩ := d1.lt
    subst e1
    refine ⟨a1, vs, rfl, ?_⟩
    by_cases hk : k = .tup
    · exact .inr ⟨w2 hk H1 r1.sub, q _ H1 G1 r1 x1 (wk_enumT (w2 hk) dd1)⟩
    · exact .inl ⟨w1 hk H1 r1.sub, q _ H1 G1 r1 x1 (wk_enumL (w1 hk) dd1)⟩⟩
end
end Fd

set_option Elab.async false
set_option linter.all false
set_option maxRecDepth 100000
set_option maxHeartbeats 4000000
/-! Fd, part L: isinstance; repr of data with dicts in it; dict displays. -/
namespace Fd
open PySem PySem.Spec PyProof.Rows L2
/-! ### isinstance -/
def tyN : PyData → String
  | .none => "NoneType"
  | .bool _ => "bool"
  | .int _ => "int"
  | .str _ => "str"
  | .list _ => "list"
  | .tuple _ => "tuple"
  | .dict _ => "dict"
theorem Dat.ty {K : PySem.W.Frag} {H : Hp} {v : V} {d : PyData} (h : Dat K H v d) : TyX K H v (.type (tyN d)) := by
  cases h with
  | non => exact .base .non
  | bl b => exact .base (.bl b)
  | int i => exact .base (.int i)
  | str x => exact .base (.str x)
  | lst a b => exact .base (.lst a)
  | tup a b => exact .base (.tup a)
  | dct a b => exact .base (.dK a)
def isInt : PyData → Bool
  | .int _ => true
  | .bool _ => true
  | _ => false
def isBl : PyData → Bool
  | .bool _ => true
  | _ => false
def isTup : PyData → Bool
  | .tuple _ => true
  | _ => false
def isLst : PyData → Bool
  | .list _ => true
  | _ => false
def isStr : PyData → Bool
  | .str _ => true
  | _ => false
theorem kit_int (K : PySem.W.Frag) (x : PyData) : PySem.W.kitOne K (.type (tyN x)) (.type "int") = some (isInt x) := by
  cases x <;> first | rfl | kernel_rfl
theorem kit_bool (K : PySem.W.Frag) (x : PyData) : PySem.W.kitOne K (.type (tyN x)) (.type "bool") = some (isBl x) := by
  cases x <;> first | rfl | kernel_rfl
theorem kit_tuple (K : PySem.W.Frag) (x : PyData) : PySem.W.kitOne K (.type (tyN x)) (.type "tuple") = some (isTup x) := by
  cases x <;> first | rfl | kernel_rfl
theorem kit_list (K : PySem.W.Frag) (x : PyData) : PySem.W.kitOne K (.type (tyN x)) (.type "list") = some (isLst x) := by
  cases x <;> first | rfl | kernel_rfl
theorem kit_str (K : PySem.W.Frag) (x : PyData) : PySem.W.kitOne K (.type (tyN x)) (.type "str") = some (isStr x) := by
  cases x <;> first | rfl | kernel_rfl
section
variable {X : Cx} {B : Bs} {K : PySem.W.Frag} {a : Expr} {m : M} {pos p p2 : Pos} {f : PyData → Bool} {T : String} {t : Str}
theorem xe_isi (hk : ∀ (K : PySem.W.Frag) (x : PyData), PySem.W.kitOne K (.type (tyN x)) (.type T) = some (f x)) (hv : bootBuiltins t = some (.type T)) (ha : XE X B a m fa) (hm : X.mg "isinstance" = none) (hmt : X.mg t = none) (hn : t ≠ "__name__" := by decide) (hdb : (t == ("__debug__" : Str)) = false := by decide)
    (hg : Gl X "isinstance" := by rfl) (hgt : Gl X t := by rfl) (hs : starEach [a, .Name t p2] X.env = (false, eval a X.env) :: starEach [.Name t p2] X.env := by rfl) (hs' : starEach [.Name t p2] X.env = (false, eval (.Name t p2) X.env) :: starEach [] X.env := by rfl) (hpl : (backTo pos (starEach [.Name t p2] X.env)).any (·.1) = false := by rfl) :
    XE X B (.Call (.Name "isinstance" p) [a, .Name t p2] [] pos) (fun e Q => m e (onD fun x => Q (.d (.bool (f x))))) fa :=
  ⟨fun e P P' h q => ha.mono e _ _ (onD_mono fun x q => h _ q) q, peW (pe_callB call_isi hg hm (by decide +kernel) (two_arg ha.pe (pe_bltn (v := .ty T) hgt hmt hv rfl hn hdb) hs hs') (he := hs) (hpl := hpl)) fun σ H Q ⟨e, G, bq, r, h⟩ => ha.go r h fun u q v H1 G1 r1 x1 d1 => by
    obtain ⟨x, rfl, q⟩ := onD_out q
    exact ⟨v, .ty T, _, _, _, rfl, .ty T, Dat.ty (Dat.mono r1.sub d1), hk X.K x, q _ H1 G1 r1 x1 (.bl _)⟩⟩
end
/-! ### repr of any data -/
section
variable {X : Cx} {pins : List (Addr × Obj)} {σ : L2.St} {H : Hp} {s : Shared}
theorem keys_read {kvs : List (Key × V)} {vs : List (Key × Value)} {es : List DictEntry} (r : KV kvs vs) (p : Pairs (mixKind X.prog X.w) es vs) : ∃ as, ReadsAll s.heap (es.map (·.key)) (kvs.map fun p => kD p.1) as ∧ as = [] := by
  induction p generalizing kvs with
  | nil =>
    cases r
    exact ⟨[], .nil, rfl⟩
  | @cons e kv es vs hk hv t ih =>
    cases r with
    | @cons p q ps qs h tt =>
      obtain ⟨as, h1, h2⟩ := ih tt
      subst h2
      rcases keyIs_shape hk with ⟨i, t, e1, e2⟩ | ⟨x, t, e1, e2⟩
      · refine ⟨[] ++ [], .cons ?_ h1, rfl⟩
        show Reads s.heap e.key (kD p.1) []
        rw [h.1, e1, e2]
        exact .int i t
      · refine ⟨[] ++ [], .cons ?_ h1, rfl⟩
        show Reads s.heap e.key (kD p.1) []
        rw [h.1, e1, e2]
        exact .str x t
theorem vals_pairs {kvs : List (Key × V)} {vs : List (Key × Value)} {es : List DictEntry} (r : KV kvs vs) (p : Pairs (mixKind X.prog X.w) es vs) : Vals (kvs.map (·.2)) (es.map (·.val)) := by
  induction p generalizing kvs with
  | nil =>
    cases r
    exact .nil
  | @cons e kv es vs hk hv t ih =>
    cases r with
    | @cons p q ps qs h tt =>
      refine .cons ?_ (ih tt)
      show L2.RelV p.2 e.val
      rw [hv]
      exact h.2
theorem zip_fst {α β : Type} : ∀ {as : List α} {bs : List β}, as.length = bs.length → (as.zip bs).map (·.1) = as
  | [], [], _ => rfl
  | a :: as, b :: bs, h => by
    rw [List.zip_cons_cons, List.map_cons, zip_fst (by simpa using h)]
theorem zip_snd {α β : Type} : ∀ {as : List α} {bs : List β}, as.length = bs.length → (as.zip bs).map (·.2) = bs
  | [], [], _ => rfl
  | a :: as, b :: bs, h => by
    rw [List.zip_cons_cons, List.map_cons, zip_snd (by simpa using h)]
mutual
theorem Dat.readsX (I : Inv X pins σ H s) (hz : H sysModules = none) : ∀ {v : V} {d : PyData} {u : Value}, Dat X.K H v d → RelV v u → ∃ as, Reads s.heap u d as ∧ sysModules ∉ as
  | _, _, _, .non, r => by cases r; exact ⟨_, Reads.none, fun z => nomatch z⟩
  | _, _, _, .bl b, r => by cases r; exact ⟨_, Reads.bool b, fun z => nomatch z⟩
  | _, _, _, .int i, r => by obtain ⟨t, rfl⟩ := r; exact ⟨_, Reads.int i t, fun z => nomatch z⟩
  | _, _, _, .str x, r => by obtain ⟨t, rfl⟩ := r; exact ⟨_, Reads.str x t, fun z => nomatch z⟩
  | _, _, _, .lst (a := a) (ds := ds) h1 h2, r => by
    cases r
    obtain ⟨its, rv, ⟨o, n, ho, hc, _, hd⟩, _⟩ := I.list (.inl (.inl h1))
    obtain ⟨as, q, nq⟩ := Dats.readsX I hz h2 rv
    refine ⟨_, Reads.list ho hc hd q, fun hm => ?_⟩
    rcases List.mem_cons.mp hm with z | z
    · rw [← z, hz] at h1; cases h1
    · exact nq z
  | _, _, _, .tup (ds := ds) h1 h2, r => by
    cases r
    obtain ⟨its, rv, ⟨o, ho, hc, n, hd⟩, _⟩ := I.tuple (.inl (.inl h1))
    obtain ⟨as, q, nq⟩ := Dats.readsX I hz h2 rv
    exact ⟨_, Reads.tuple ho hc hd q, nq⟩
  | _, _, _, .dct (a := a) (kvs := kvs) (ds := ds) h1 h2, r => by
    cases r
    obtain ⟨_, ns, vs, kv, o, es, ep, e1, e2, e3, _, e4, _⟩ := dk_of I.hok h1
    obtain ⟨as, q1, qa⟩ := keys_read (X := X) (s := s) kv e4
    obtain ⟨bs, q2, nb⟩ := Dats.readsX I hz h2 (vals_pairs kv e4)
    subst qa
    have hl : (kvs.map fun p => kD p.1).length = ds.length := by
      rw [List.length_map, ← h2.len, List.length_map]
    refine ⟨_, Reads.dict (kvs := (kvs.map fun p => kD p.1).zip ds) e1 e2.1 e3 (by rw [zip_fst hl]; exact q1) (by rw [zip_snd hl]; exact q2), fun hm => ?_⟩
    rcases List.mem_append.mp hm with z | z
    · rcases List.mem_cons.mp z with z | z
      · rw [← z, hz] at h1; cases h1
      · cases z
    · exact nb z
theorem Dats.readsX (I : Inv X pins σ H s) (hz : H sysModules = none) : ∀ {vs : List V} {ds : List PyData} {us : List Value}, Dats X.K H vs ds → Vals vs us → ∃ as, ReadsAll s.heap us ds as ∧ sysModules ∉ as
  | _, _, _, .nil, r => by cases r; exact ⟨_, ReadsAll.nil, fun z => nomatch z⟩
  | _, _, _, .cons h1 h2, r => by
    cases r with
    | cons r1 r2 =>
      obtain ⟨as, q1, n1⟩ := Dat.readsX I hz h1 r1
      obtain ⟨bs, q2, n2⟩ := Dats.readsX I hz h2 r2
      refine ⟨_, ReadsAll.cons q1 q2, fun hm => ?_⟩
      rcases List.mem_append.mp hm with z | z
      · exact n1 z
      · exact n2 z
end
end
/-- what may be shown -/
structure ShowsX (x : PyData) : Prop where
  able : x.showable = true
  deep : x.depth ≤ 60
  size : x.shown.length ≤ 1000000
theorem Sh.showsX {s k : Nat} {d : PyData} (h : Sh s k d) (hs : s ≤ 1000000) (hk : k ≤ 60) : ShowsX d := ⟨h.able, Nat.le_trans h.deep hk, Nat.le_trans h.size hs⟩
def onShowX (Q : PyData → Prop) : U → Prop
  | .d x => ShowsX x ∧ Q x
  | _ => False
theorem onShowX_out {Q : PyData → Prop} {u : U} (q : onShowX Q u) : ∃ x, u = .d x ∧ ShowsX x ∧ Q x := by
  unfold onShowX at q
  split at q
  · exact ⟨_, rfl, q⟩
  · exact q.elim
theorem onShowX_d {Q : PyData → Prop} {d : PyData} : onShowX Q (.d d) = (ShowsX d ∧ Q d) := rfl
section
variable {X : Cx} {B : Bs} {K : PySem.W.Frag} {a : Expr} {m : M} {pos p : Pos}
def rReprX (K : PySem.W.Frag) : List V → Hp → VK → Prop := fun vs H Q => ∃ (v : V) (x : PyData), vs = [v] ∧ Dat K H v x ∧ ShowsX x ∧ Q (.str x.shown) H
theorem cr_reprX (sm : ∃ o, X.base.get? sysModules = some o) (hu : X.A.units + 64 < cLine) (hgd : X.A.guards = some []) : CallR X (.builtin "repr") (rReprX X.K) := by
  intro pins s σ H vs us Q I r h
  obtain ⟨v, x, rfl, d, sh, q⟩ := h
  obtain ⟨u, rfl, rv⟩ := vals1 r
  obtain ⟨o, so⟩ := sm
  have hz0 := (I.bs _ _ so).2
  obtain ⟨as, rd, nd⟩ := Dat.readsX I hz0 d rv
  have hz : x.shown.length ≤ sizeLine := le_line sh.size
  have fin : ∀ (h' : Heap) (u : Tok) (tk : Nat), (∀ b o, s.heap.get? b = some o → h'.get? b = some o) → EP X pins σ Q (.str x.shown u) { s with heap := h', toks := tk } := fun h' u tk hk => ⟨.str _, H, I.kept (t' := tk) hk, ⟨_, rfl⟩, q⟩
  have deep := sh.deep
  cases rd with
  | none => exact PySem.P.repr_of_none (by have := fin s.heap s.toks (s.toks + 1) (fun _ _ e => e); simpa only [PyData.shown] using this)
  | bool b => exact PySem.P.repr_of_bool (by have := fin s.heap s.toks (s.toks + 1) (fun _ _ e => e); simpa only [PyData.shown] using this)
  | int i t => exact PySem.P.repr_of_int (by simpa [PyData.showable] using sh.able) (by have := fin s.heap s.toks (s.toks + 1) (fun _ _ e => e); simpa only [PyData.shown] using this)
  | str y t => exact PySem.P.repr_of_str (by have := fin s.heap s.toks (s.toks + 1) (fun _ _ e => e); simpa only [PyData.shown] using this) (by simpa only [PyData.shown] using hz)
  | list h1 h2 h3 h4 => exact repr_of_reads' (Reads.list h1 h2 h3 h4) sh.able (fun _ => nd) hgd (by omega) (fun _ _ e => e) (fun h' u tk hk => fin h' u tk hk) hz
  | tuple h1 h2 h3 h4 => exact repr_of_reads' (Reads.tuple h1 h2 h3 h4) sh.able (fun _ => nd) hgd (by omega) (fun _ _ e => e) (fun h' u tk hk => fin h' u tk hk) hz
  | dict h1 h2 h3 h4 h5 => exact repr_of_reads' (Reads.dict h1 h2 h3 h4 h5) sh.able (fun _ => nd) hgd (by omega) (fun _ _ e => e) (fun h' u tk hk => fin h' u tk hk) hz
theorem xe_reprX (sm : ∃ o, X.base.get? sysModules = some o) (hu : X.A.units + 64 < cLine) (hgd : X.A.guards = some []) (ha : XE X B a m fa) (hm : X.mg "repr" = none) (hg : Gl X "repr" := by rfl) (hs : starEach [a] X.env = (false, eval a X.env) :: starEach [] X.env := by rfl) (hpl : (backTo pos (starEach [] X.env)).any (·.1) = false := by rfl) :
    XE X B (.Call (.Name "repr" p) [a] [] pos) (fun e Q => m e (onShowX fun x => Q (.d (.str x.shown)))) fa :=
  ⟨fun e P P' h q => ha.mono e _ _ (fun u q => by
    obtain ⟨x, rfl, q1, q2⟩ := onShowX_out q
    exact ⟨q1, h _ q2⟩) q, peW (pe_callB (cr_reprX sm hu hgd) hg hm (by decide +kernel) (one_arg ha.pe hs) (he := hs) (hpl := hpl)) fun σ H Q ⟨e, G, bq, r, h⟩ => ha.go r h fun u q v H1 G1 r1 x1 d1 => by
    obtain ⟨x, rfl, q1, q2⟩ := onShowX_out q
    exact ⟨v, x, rfl, Dat.mono r1.sub d1, q1, q2 _ H1 G1 r1 x1 (.str _)⟩⟩
/-! ### dict displays -/
theorem xe_gi {t : Str} {i : Int} (hm : ∃ u, X.mg t = some (.int i u)) (hg : Gl X t := by rfl) (hd : (t == ("__debug__" : Str)) = false := by decide) : XE X B (.Name t pos) (fun _ Q => Q (.d (.int i))) cz := by
  obtain ⟨u, hm⟩ := hm
  exact xe_globI hg hm hd
theorem xe_dict0 : XE X B (.Dict [] [] pos) (fun _ Q => Q (.d (.dict []))) cz :=
  ⟨fun e P P' h q => h _ q, peW pe_dnewK fun σ H Q ⟨e, G, bq, r, q⟩ p hp => q _ _ _ (r.new hp _) (nxt_laid (r.gold hp) hp _) (.dct (kvs := []) (ds := []) upd_same .nil)⟩
end
/-- a thing that was laid, and is nobody's, is written over -/
theorem Rel.over {K : PySem.W.Frag} {B : Bs} {e : En} {σ : L2.St} {G H : Hp} (r : Rel K B bd e σ G H) {p : Addr} (g : G p = none) (np : p ∉ B.pt.pots) (old : B.H0 p = none) (no : ∀ (i : Nat) (t : Sl), e[i]? = some (some t) → t.isOwn = true → σ[i]? ≠ some (some (.ref p))) (o : HO) : Rel K B bd e σ G (upd H p o) where
  sub := fun a u q => by
    have ne : a ≠ p := fun z => by rw [z, g] at q; cases q
    rw [upd_ne ne]
    exact r.sub a u q
  sub0 := r.sub0
  grow := r.grow
  gpot := r.gpot
  J := B.pt.loc H _ (fun a ha => upd_ne fun z => np (z ▸ ha)) r.J
  frame := fun a u q hn => by
    rw [upd_ne (ne_of_none q old)]
    exact r.frame a u q hn
  len := r.len
  val := r.val
  own := fun i ds q hz => by
    obtain ⟨p', vs, h1, h2, h3⟩ := r.own i ds q hz
    have ne : p' ≠ p := fun z => no i ds q hz (z ▸ h1)
    exact ⟨p', vs, h1, by rw [upd_ne ne]; exact h2, h3⟩
  sep := r.sep
/-- the pairs of a display whose keys are texts -/
structure XPs (X : Cx) (B : Bs) (pos : Pos) (keys : List (Option Expr)) (values : List Expr) (ks : List Key) (mr : MA) (f : Cst) : Prop where
  mono : ∀ e (P P' : List U → Prop), (∀ u, P u → P' u) → mr e P → mr e P'
  cnt : ∀ e (P : List U → Prop), mr e P → mr e fun us => us.length = ks.length ∧ P us
  pp : ∃ trs, PPs X pos keys values trs ∧ ∀ σ H (Q : List (V × V) → Hp → Prop), tMA X.K B mr f σ H (fun vs H' => Q ((ks.zip vs).map fun p => (kV p.1, p.2)) H') → tPairs trs σ H Q
section
variable {X : Cx} {B : Bs} {pos p : Pos} {keys : List (Option Expr)} {values : List Expr} {ks : List Key} {m : M} {mr : MA} {v : Expr} {x : Str} {j : Nat}
theorem xps_nil : XPs X B pos [] [] [] (fun _ Q => Q []) cz :=
  ⟨fun e P P' h q => h _ q, fun e P q => ⟨rfl, q⟩, [], pps_nil, fun σ H Q ⟨e, G, bq, r, q⟩ => q [] H G r .refl .nil⟩
theorem xps_cons (ha : XE X B v m fa) (hr : XPs X B pos keys values ks mr fr) : XPs X B pos (some (.Constant (.str x) j p) :: keys) (v :: values) (.inr x :: ks) (mCons m mr) (sq fa fr) := by
  obtain ⟨trs, pp, cv⟩ := hr.pp
  refine ⟨fun e P P' h q => ha.mono e _ _ (fun u hu => hr.mono e _ _ (fun us q => h _ q) hu) q, fun e P q => ha.mono e _ _ (fun u hu => hr.mono e _ _ (fun us q => ⟨by rw [List.length_cons, List.length_cons, q.1], q.2⟩) (hr.cnt e _ hu)) q, _, pps_cons pe_str ha.pe pp, fun σ H Q ⟨e, G, bq, r, h⟩ => ?_⟩
  exact ha.go r h fun u hu v1 H1 G1 r1 x1 d1 => cv σ H1 _ ⟨e, G1, _, r1, hr.mono e _ _ (fun us q vs H2 G2 r2 x2 d2 => q (v1 :: vs) H2 G2 r2 (x1.trans x2) (.cons (d1.mono x2.same) d2)) hu⟩
theorem xe_disp (hp : XPs X B pos keys values ks mr fp) (hmg : ∀ vs : List V, vs.length = ks.length → mergeK [] (ks.zip vs) = ks.zip vs) (h15 : keys.length ≤ 15 := by decide) (hk : keys.length = ks.length := by rfl) (hall : keys.all (·.isSome) = true := by rfl) (hl : keys.length = values.length := by rfl) (h0 : keys ≠ [] := by simp) :
    XE X B (.Dict keys values pos) (fun e Q => mr e (onDs fun ds => Q (.d (.dict ((ks.map kD).zip ds))))) fp := by
  obtain ⟨trs, pp, cv⟩ := hp.pp
  refine ⟨fun e P P' h q => hp.mono e _ _ (fun us q => onDs_mono (fun _ q => h _ q) q) q, peW (pe_disp pp hall hl h0 h15) fun σ H Q ⟨e, G, bq, r, h⟩ p hn => cv σ _ _ ⟨e, G, _, r.laid hn _, hp.mono e _ _ (fun us q vs H' G' r' x' d' => ?_) (hp.cnt e _ h)⟩⟩
  obtain ⟨hlen, q⟩ := q
  obtain ⟨ds, ea, _, q⟩ := onDs_out q
  have dd := allD_dats d' ea
  have vl : vs.length = ks.length := by rw [d'.len, hlen]
  have at_ : H' p = some (.dK []) := x'.ext p _ upd_same (r.nopot hn)
  have g' : G' p = none := by
    cases z : G' p with
    | none => rfl
    | some o =>
      rcases x'.grow p o z with t | t | t | ⟨xs, t⟩
      · rw [r.gold hn] at t; cases t
      · rw [upd_same] at t; cases t
      · exact absurd t (r.nopot hn)
      · have := at_.symm.trans (r'.sub p o z)
        rw [t] at this; cases this
  refine ⟨at_, ks.zip vs, rfl, by rw [List.length_zip]; omega, ?_⟩
  rw [hmg vs vl]
  have no := rel_no r r' hn
  have ro := (r'.over g' (r.nopot hn) (r.old hn) no (.dK (ks.zip vs))).froze upd_same g' (r.old hn) (r.nopot hn) no
  have ek : (ks.zip vs).map (fun p => kD p.1) = ks.map kD := by
    have : (ks.zip vs).map (fun p => kD p.1) = ((ks.zip vs).map (·.1)).map kD := by rw [List.map_map]; rfl
    rw [this, zip_fst vl.symm]
  refine q _ _ _ ro ⟨x'.same.trans (same_laid g' _), fun a u z hna => ?_, fun a u z => ?_⟩ ?_
  · have ne := ne_of_none z hn
    rw [upd_ne ne]
    exact x'.ext a u (by rw [upd_ne ne]; exact z) hna
  · by_cases ha : a = p
    · exact .inr (.inl (ha ▸ hn))
    · rw [upd_ne ha] at z
      rcases x'.grow a u z with t | t | t | t
      · exact .inl t
      · rw [upd_ne ha] at t; exact .inr (.inl t)
      · exact .inr (.inr (.inl t))
      · exact .inr (.inr (.inr t))
  · show Dat _ _ _ (.dict ((ks.map kD).zip ds))
    rw [← ek]
    exact .dct upd_same (by rw [zip_snd vl.symm]; exact dd.mono (same_laid g' _))
end
end Fd

set_option Elab.async false
set_option linter.all false
set_option maxRecDepth 100000
set_option maxHeartbeats 4000000
/-! Fd, part M: t[::-1] of tuples and lists, tuples some times, truth values among ints, str. -/
namespace Fd
open PySem PySem.Spec PyProof.Rows L2
/-! ### t[::-1] -/
theorem fm_congr {α β : Type} {f g : α → Option β} : ∀ {l : List α}, (∀ a ∈ l, f a = g a) → l.filterMap f = l.filterMap g
  | [], _ => rfl
  | a :: l, h => by
    rw [List.filterMap_cons, List.filterMap_cons, h a List.mem_cons_self, fm_congr fun b hb => h b (List.mem_cons_of_mem _ hb)]
section
variable {pr : Program} {wo : World} {A : Around} {E : Value → Shared → Prop} {s : Shared}
theorem applied_rev {sl : Addr} {vs : Value} {n : Nat} {Q : Int × Int × Nat → Shared → Prop} (hs : s.heap.IsSliceOf sl .none .none vs) (ps : IsPart vs (some (-1)))
    (h : Q ((n : Int) - 1, -1, n) s) : wpAny (model pr wo) A (Builtin.Slice.sliceApplied (.ref sl) (pure (n : Int))) Q E s := by
  obtain ⟨os, hos, hcs, hds⟩ := id hs
  unfold Builtin.Slice.sliceApplied Builtin.Slice.sliceFields
  refine wpAny_bind (wpAny_bind (wpAny_field hos hds (x := Value.none) rfl (wpAny_bind (wpAny_field hos hds (x := Value.none) rfl (wpAny_bind (wpAny_field hos hds (x := vs) rfl (wpAny_pure ?_)))))))
  refine wpAny_bind (HT.slicePart_ ps ?_)
  show wpAny _ _ (if ((-1 : Int) == 0) = true then _ else _) _ _ s
  rw [if_neg (by decide)]
  refine wpAny_bind (slicePart_none (wpAny_bind (slicePart_none (wpAny_bind (wpAny_pure ?_)))))
  have ad : Builtin.Slice.sliceAdjust none none (-1) (n : Int) = ((n : Int) - 1, -1) := rfl
  have pl : Builtin.Slice.slicePlaces ((n : Int) - 1) (-1) (-1) = n := by
    unfold Builtin.Slice.slicePlaces
    rw [if_neg (by decide)]
    have e1 : (-(-1) : Int) = 1 := rfl
    rw [e1, Int.ediv_one]
    split <;> omega
  show wpAny _ _ (match Builtin.Slice.sliceAdjust none none (-1) (n : Int) with | (lo, hi) => pure (lo, (-1 : Int), Builtin.Slice.slicePlaces lo hi (-1))) _ _ s
  rw [ad]
  show wpAny _ _ (pure ((n : Int) - 1, (-1 : Int), Builtin.Slice.slicePlaces ((n : Int) - 1) (-1) (-1))) _ _ s
  rw [pl]
  exact wpAny_pure h
theorem pick_rev (xs : Array Value) : ((List.range xs.size).filterMap fun (m : Nat) => xs[(((xs.size : Nat) : Int) - 1 + (m : Int) * (-1)).toNat]?).toArray = xs.toList.reverse.toArray := by
  have e : (List.range xs.size).filterMap (fun (m : Nat) => xs[(((xs.size : Nat) : Int) - 1 + (m : Int) * (-1)).toNat]?) = ((List.range xs.size).map fun k => xs.size - 1 - k).filterMap (xs[·]?) := by
    rw [List.filterMap_map]
    refine fm_congr fun m hm => ?_
    have := List.mem_range.mp hm
    have e2 : (((xs.size : Nat) : Int) - 1 + (m : Int) * (-1)).toNat = xs.size - 1 - m := by omega
    rw [e2]
    rfl
  rw [e, PySem.W.krv_range, List.filterMap_reverse, PySem.W.krv_all]
theorem item_rev {t sl : Addr} {items : Array Value} {vs : Value} {Q : Value → Shared → Prop} (ht : IsTup s.heap t items) (hs : s.heap.IsSliceOf sl .none .none vs) (ps : IsPart vs (some (-1)))
    (h : Q (.ref s.heap.objs.size) { s with heap := s.heap.push { cls := .type "tuple", data := .seq items.toList.reverse.toArray } }) (hsz : items.size ≤ sizeLine) : wpAny (model pr wo) A (getItem (.ref t) (.ref sl)) Q E s := by
  have fits : sizeOk (.seq items.toList.reverse.toArray) := by
    show items.toList.reverse.toArray.size ≤ sizeLine
    rw [List.size_toArray, List.length_reverse, Array.length_toList]
    exact hsz
  obtain ⟨os, hos, hcs, hds⟩ := id hs
  have tys : s.TypeIs (.ref sl) "slice" := ⟨os, hos, hcs⟩
  unfold getItem
  try with_reducible refine wpAny_holding ?_
  first | refine wpAny_bind (wpAny_pure ?_) | skip
  refine wpAny_bind (wpAny_sequenceKey ht.typeIs (by decide) ?_)
  refine wpAny_bind (wpAny_callSpecial?_slot (name := Str.ofString "__getitem__") ht.typeIs PyProof.Rows.slot_tuple_getitem (wpAny_call_entry PyProof.Rows.slot_tuple_getitem ht.typeIs entry_tuple_getitem ?_ (args_tuple_getitem _ _)))
  show wpAny _ _ (Builtin.Tuple.tupleItemsOf (.ref t) >>= _) _ _ s
  refine wpAny_bind (tupleItemsOf_ ht ?_)
  refine wpAny_bind (wpAny_typeOf tys ?_)
  rw [if_pos (by decide)]
  refine wpAny_bind (applied_rev hs ps ?_)
  show wpAny _ _ (if (((items.size : Int) - 1) == 0 && (-1 : Int) == 1 && items.size == items.size) = true then _ else _) _ _ s
  rw [if_neg (by simp), pick_rev]
  first
    | exact wpAny_bind (m := Builtin.Tuple.tupleExact _) (wpAny_newObj_type (wpAny_pure ⟨_, rfl, wpAny_pure h⟩) fits)
    | exact wpAny_bind (wpAny_bind (m := Builtin.Tuple.tupleExact _) (wpAny_newObj_type (wpAny_pure (wpAny_pure ⟨_, rfl, wpAny_pure h⟩)) fits))
    | exact wpAny_bind (wpAny_bind (m := Builtin.Tuple.tupleExact _) (wpAny_newObj_type (wpAny_pure ⟨_, rfl, wpAny_pure h⟩) fits))
end
section
variable {X : Cx} {B : Bs} {K : PySem.W.Frag} {a b : Expr} {m : M} {ml : ML} {pos p p1 p2 p3 : Pos} {k : Nat}
def tRevT (K : PySem.W.Frag) (te : TE) : TE := fun σ H Q => te σ H fun x H1 => ∃ a xs, x = .ref a ∧ SqT K H1 a xs ∧ ∀ p, H1 p = none → Q (.ref p) (upd H1 p (.tup xs.reverse))
theorem pe_revT {e : Expr} {te : TE} (he : PE X e te) : PE X (.Subscript e (.Slice none none (some (.UnaryOp .USub (.Constant (.int 1) k p1) p2)) p3) pos) (tRevT X.K te) := by
  refine ⟨fun pins s σ H Q I h => Subscript_ (thn (he.run pins s σ H _ I h) fun v s1 ⟨x, H1, I1, r1, q1⟩ => ?_)⟩
  obtain ⟨a, xs, ex, hx, q⟩ := q1
  subst ex
  cases r1
  have step : PO X (some (.UnaryOp .USub (.Constant (.int 1) k p1) p2)) (tPart (tUn (rU fun i => .int (-i)) (tC (.int 1)))) := po_some (pe_un un_neg pe_int)
  refine wpAny_Slice (thn (po_none.run pins s1 σ H1 (fun o H2 => o = none ∧ H2 = H1) I1 ⟨rfl, rfl⟩) fun vl s2 ⟨l, H2, I2, pl, el, e2⟩ => ?_)
  subst el e2
  refine thn (po_none.run pins s2 σ H2 (fun o H3 => o = none ∧ H3 = H2) I2 ⟨rfl, rfl⟩) fun vu s3 ⟨u, H3, I3, pu, eu, e3⟩ => ?_
  subst eu e3
  refine thn (step.run pins s3 σ H3 (fun o H4 => o = some (-1) ∧ H4 = H3) I3 ⟨1, rfl, -1, rfl, rfl, rfl⟩) fun vs s4 ⟨o, H4, I4, ps, eo, e4⟩ => ?_
  subst eo e4
  cases pl
  cases pu
  have I5 : Inv X pins σ H4 { s4 with heap := s4.heap.push { cls := .type "slice", data := .fields #[.none, .none, vs] } } := I4.kept (t' := s4.toks) fun b ob q => Heap.get?_push_of_some _ q
  obtain ⟨its, r, ht, hz⟩ := I5.tuple hx
  have hlen := r.length
  show wpAny (model X.prog X.w) X.A (subscriptTail e (.Slice none none (some (.UnaryOp .USub (.Constant (.int 1) k p1) p2)) p3) (.ref a) (.ref s4.heap.objs.size)) (EP X pins σ Q) X.xe { s4 with heap := s4.heap.push { cls := .type "slice", data := .fields #[.none, .none, vs] } }
  refine tail_any (ops := [.ref a, .ref s4.heap.objs.size]) ht.typeIs (PyProof.Rows.slot_tuple_getitem.lookup) ?_ (by with_unfolding_all rfl)
  refine item_rev ht (Heap.IsSliceOf.new _ _ _ vs) ps ?_ (by rw [List.size_toArray]; omega)
  refine ⟨.ref _, _, I5.laid (t' := s4.toks) (o := .tup xs.reverse) (fun b ob q => Heap.get?_push_of_some _ q) (Nat.le_refl _) ?_, rfl, q _ (I5.hok.fresh (Nat.le_refl _))⟩
  exact ⟨by rw [List.length_reverse]; exact hz, _, r.reverse, ⟨_, Heap.get?_push_size _ rfl, rfl, _, rfl⟩⟩
theorem Dats.rev {G : Hp} : ∀ {vs : List V} {ds : List PyData}, Dats K G vs ds → Dats K G vs.reverse ds.reverse
  | _, _, .nil => .nil
  | _, _, .cons h t => by
    rw [List.reverse_cons, List.reverse_cons]
    exact t.rev.app (.one h)
theorem xe_rev (ha : XL X B a ml fa) : XE X B (.Subscript a (.Slice none none (some (.UnaryOp .USub (.Constant (.int 1) k p1) p2)) p3) pos) (fun e Q => ml e fun kd ds => match kd with
    | .tup => Q (.d (.tuple ds.reverse))
    | _ => False) fa :=
  ⟨fun e P P' h q => ha.mono e _ _ (fun kd ds q => by
    cases kd with
    | tup => exact h _ q
    | lst => exact q
    | scr => exact q) q, peW (pe_revT ha.pe) fun σ H Q ⟨e, G, bq, r, h⟩ => ha.go r h fun kd ds q v H1 G1 r1 x1 d1 => by
    obtain ⟨a, vs, rfl, sq, dd⟩ := d1
    cases kd with
    | tup => exact ⟨a, vs, rfl, .inl (.inl (r1.sub _ _ sq)), fun p hp => q _ _ _ (r1.new hp _) (x1.trans (nxt_laid (r1.gold hp) hp _)) (.tup upd_same (dd.rev.mono (same_laid (r1.gold hp) _)))⟩
    | lst => exact q.elim
    | scr => exact q.elim⟩
/-! ### str -/
theorem xe_str1 (ha : XE X B a m fa) (hm : X.mg "str" = none) (hg : Gl X "str" := by rfl) (hs : starEach [a] X.env = (false, eval a X.env) :: starEach [] X.env := by rfl) (hpl : (backTo pos (starEach [] X.env)).any (·.1) = false := by rfl) :
    XE X B (.Call (.Name "str" p) [a] [] pos) (fun e Q => m e fun u => match u with
      | .d (.int i) => i.natAbs.log2 < 1920 ∧ Q (.d (.str (toString i)))
      | .d (.bool b) => Q (.d (.str (if b then "True" else "False")))
      | _ => False) fa :=
  ⟨fun e P P' h q => ha.mono e _ _ (fun u q => by
    split at q
    · exact ⟨q.1, h _ q.2⟩
    · exact h _ q
    · exact q) q, peW (pe_callTy (r := fun xs H Q => (∃ i, xs = [.int i] ∧ i.natAbs.log2 < 1920 ∧ Q (.str (toString i)) H) ∨ ∃ b, xs = [.bl b] ∧ Q (.str (if b then "True" else "False")) H) (fun pins s σ H xs us Q I r h => by
      rcases h with ⟨i, rfl, hz, q⟩ | ⟨b, rfl, q⟩
      · obtain ⟨u, rfl, t, rfl⟩ := vals1 r
        exact PySem.P.str_of_int hz ⟨.str _, H, I.tok _, ⟨_, rfl⟩, q⟩
      · obtain ⟨u, rfl, r1⟩ := vals1 r
        cases r1
        exact PySem.P.str_of_bool ⟨.str _, H, I.tok _, ⟨_, rfl⟩, q⟩) hg hm (by decide +kernel) (one_arg ha.pe hs) (he := hs) (hpl := hpl)) fun σ H Q ⟨e, G, bq, r, h⟩ => ha.go r h fun u q v H1 G1 r1 x1 d1 => by
    split at q
    · cases d1
      exact .inl ⟨_, rfl, q.1, q.2 _ H1 G1 r1 x1 (.str _)⟩
    · cases d1
      exact .inr ⟨_, rfl, q _ H1 G1 r1 x1 (.str _)⟩
    · exact q.elim⟩
end
/-- a def of which nothing is promised -/
theorem fng_no {P : Program} {w : World} {K : PySem.W.Frag} {mg : Str → Option Value} {base : Heap} {k c : Nat} {f : Addr} {fd : FuncData} {ps : List Str} {Φ : Ph} (h : ∀ us Q, ¬ Φ us Q) : FnG P w K mg base k f fd ps (spF K Φ c) :=
  ⟨fun vs H Q ⟨_, _, us, _, _, _, _, _, q⟩ => (h us _ q).elim, fun A outer s H args us vs Q _ _ _ _ _ ⟨_, _, us, _, _, _, _, _, q⟩ => (h us _ q).elim⟩
end Fd

set_option Elab.async false
set_option linter.all false
set_option maxRecDepth 100000
set_option maxHeartbeats 400000
/-! Fd, part N: values of bounded size: their leaves, weight and depth; that they can be shown. -/
namespace Fd
open PySem PySem.Spec PyProof.Rows L2
mutual
/-- the leaves: ints from -b to b, texts of plain signs; no dicts -/
def lf (b : Int) : PyData → Bool
  | .none => true
  | .bool _ => true
  | .int i => decide (-b ≤ i) && decide (i ≤ b)
  | .str x => x.cps.toList.all fun c => decide (c < 16 ^ 8)
  | .list xs => lfAll b xs
  | .tuple xs => lfAll b xs
  | .dict _ => false
def lfAll (b : Int) : List PyData → Bool
  | [] => true
  | x :: xs => lf b x && lfAll b xs
end
theorem lfAll_iff {b : Int} : ∀ {xs : List PyData}, lfAll b xs = true ↔ ∀ x ∈ xs, lf b x = true
  | [] => by simp [lfAll]
  | x :: xs => by
    simp only [lfAll, Bool.and_eq_true, lfAll_iff (xs := xs), List.mem_cons, forall_eq_or_imp]
theorem depthAll_iff {k : Nat} : ∀ {xs : List PyData}, PyData.depthAll xs ≤ k ↔ ∀ x ∈ xs, x.depth ≤ k
  | [] => by simp [PyData.depthAll]
  | x :: xs => by
    simp only [PyData.depthAll, List.mem_cons, forall_eq_or_imp, ← depthAll_iff (xs := xs)]
    omega
theorem weightAll_app : ∀ (xs ys : List PyData), PyData.weightAll (xs ++ ys) = PyData.weightAll xs + PyData.weightAll ys
  | [], ys => by simp [PyData.weightAll]
  | x :: xs, ys => by
    rw [List.cons_append]
    simp only [PyData.weightAll, weightAll_app xs ys]
    omega
theorem weightAll_mem {x : PyData} : ∀ {xs : List PyData}, x ∈ xs → x.weight + 1 ≤ PyData.weightAll xs
  | [], h => nomatch h
  | y :: ys, h => by
    simp only [PyData.weightAll]
    rcases List.mem_cons.mp h with z | z
    · rw [z]; omega
    · have := weightAll_mem z
      omega
mutual
theorem lf_plain {b : Int} : ∀ {d : PyData}, lf b d = true → d.plain = true
  | .none, _ => by simp only [PyData.plain]
  | .bool _, _ => by simp only [PyData.plain]
  | .int _, _ => by simp only [PyData.plain]
  | .str _, _ => by simp only [PyData.plain]
  | .list xs, h => by simp only [PyData.plain]; exact lfAll_plain (by simpa only [lf] using h)
  | .tuple xs, h => by simp only [PyData.plain]; exact lfAll_plain (by simpa only [lf] using h)
  | .dict _, h => by simp [lf] at h
theorem lfAll_plain {b : Int} : ∀ {xs : List PyData}, lfAll b xs = true → PyData.plainAll xs = true
  | [], _ => by simp only [PyData.plainAll]
  | x :: xs, h => by
    simp only [lfAll, Bool.and_eq_true] at h
    simp only [PyData.plainAll, lf_plain h.1, lfAll_plain h.2, Bool.and_self]
end
mutual
theorem lf_mono {b c : Int} (hb : b ≤ c) : ∀ {d : PyData}, lf b d = true → lf c d = true
  | .none, _ => rfl
  | .bool _, _ => rfl
  | .int i, h => by
    simp only [lf, Bool.and_eq_true, decide_eq_true_eq] at h ⊢
    omega
  | .str _, h => by simpa only [lf] using h
  | .list xs, h => by simp only [lf] at h ⊢; exact lfAll_mono hb h
  | .tuple xs, h => by simp only [lf] at h ⊢; exact lfAll_mono hb h
  | .dict _, h => by simp [lf] at h
theorem lfAll_mono {b c : Int} (hb : b ≤ c) : ∀ {xs : List PyData}, lfAll b xs = true → lfAll c xs = true
  | [], _ => rfl
  | x :: xs, h => by
    simp only [lfAll, Bool.and_eq_true] at h ⊢
    exact ⟨lf_mono hb h.1, lfAll_mono hb h.2⟩
end
theorem text_short {i b : Int} (hb : b ≤ 10 ^ 40) (h : -b ≤ i ∧ i ≤ b) : (Str.ofString (toString i)).length ≤ 42 := by
  rw [PySem.ofString_length]
  exact int_text_length_le10 (a := i) (k := 41) (by decide) (by omega)
mutual
theorem lf_short {b : Int} (hb : b ≤ 10 ^ 40) : ∀ {d : PyData}, lf b d = true → d.leavesShort 42 = true
  | .none, _ => by simp only [PyData.leavesShort]
  | .bool _, _ => by simp only [PyData.leavesShort]
  | .int i, h => by
    simp only [lf, Bool.and_eq_true, decide_eq_true_eq] at h
    simp only [PyData.leavesShort, PyData.shown]
    exact decide_eq_true (text_short hb h)
  | .str _, h => by simpa only [PyData.leavesShort, lf] using h
  | .list xs, h => by simp only [lf] at h; simp only [PyData.leavesShort]; exact lfAll_short hb h
  | .tuple xs, h => by simp only [lf] at h; simp only [PyData.leavesShort]; exact lfAll_short hb h
  | .dict _, h => by simp [lf] at h
theorem lfAll_short {b : Int} (hb : b ≤ 10 ^ 40) : ∀ {xs : List PyData}, lfAll b xs = true → PyData.leavesShortAll 42 xs = true
  | [], _ => by simp only [PyData.leavesShortAll]
  | x :: xs, h => by
    simp only [lfAll, Bool.and_eq_true] at h
    simp only [PyData.leavesShortAll, Bool.and_eq_true]
    exact ⟨lf_short hb h.1, lfAll_short hb h.2⟩
end
mutual
theorem lf_able {b : Int} (hb : b ≤ 10 ^ 40) : ∀ {d : PyData}, lf b d = true → d.showable = true
  | .none, _ => by simp only [PyData.showable]
  | .bool _, _ => by simp only [PyData.showable]
  | .int i, h => by
    simp only [lf, Bool.and_eq_true, decide_eq_true_eq] at h
    have l := log2_lt (n := i.natAbs) (k := 140) (Nat.lt_of_le_of_lt (by omega) (show 10 ^ 40 < 2 ^ 140 by decide)) (by decide)
    simp only [PyData.showable, decide_eq_true_eq]
    omega
  | .str _, h => by simp only [PyData.showable]
  | .list xs, h => by simp only [lf] at h; simp only [PyData.showable]; exact lfAll_able hb h
  | .tuple xs, h => by simp only [lf] at h; simp only [PyData.showable]; exact lfAll_able hb h
  | .dict _, h => by simp [lf] at h
theorem lfAll_able {b : Int} (hb : b ≤ 10 ^ 40) : ∀ {xs : List PyData}, lfAll b xs = true → PyData.showableAll xs = true
  | [], _ => by simp only [PyData.showableAll]
  | x :: xs, h => by
    simp only [lfAll, Bool.and_eq_true] at h
    simp only [PyData.showableAll, Bool.and_eq_true]
    exact ⟨lf_able hb h.1, lfAll_able hb h.2⟩
end
/-- a value of bounded leaves, weight and depth -/
structure Tm (b : Int) (w k : Nat) (d : PyData) : Prop where
  lf : lf b d = true
  wt : d.weight ≤ w
  dp : d.depth ≤ k
theorem Tm.le {b c : Int} {w w' k k' : Nat} {d : PyData} (h : Tm b w k d) (hb : b ≤ c) (hw : w ≤ w') (hk : k ≤ k') : Tm c w' k' d := ⟨lf_mono hb h.lf, Nat.le_trans h.wt hw, Nat.le_trans h.dp hk⟩
theorem Tm.shows {b : Int} {w k : Nat} {d : PyData} (h : Tm b w k d) (hb : b ≤ 10 ^ 40) (hw : w ≤ 20000) (hk : k ≤ 60) : ShowsX d := by
  refine ⟨lf_able hb h.lf, Nat.le_trans h.dp hk, ?_⟩
  have s := PyData.shown_le 42 (by decide) d (lf_short hb h.lf)
  have := h.wt
  omega
/-- items each of bounded leaves and depth, of a bounded weight together -/
structure Tms (b : Int) (w k : Nat) (xs : List PyData) : Prop where
  lf : ∀ x ∈ xs, lf b x = true
  wt : PyData.weightAll xs ≤ w
  dp : ∀ x ∈ xs, x.depth ≤ k
theorem Tms.tup {b : Int} {w k : Nat} {xs : List PyData} (h : Tms b w k xs) : Tm b w (k + 1) (.tuple xs) := by
  refine ⟨by simp only [Fd.lf]; exact lfAll_iff.mpr h.lf, by simp only [PyData.weight]; exact h.wt, ?_⟩
  simp only [PyData.depth]
  have := depthAll_iff.mpr h.dp
  omega
theorem Tms.list {b : Int} {w k : Nat} {xs : List PyData} (h : Tms b w k xs) : Tm b w (k + 1) (.list xs) := by
  refine ⟨by simp only [Fd.lf]; exact lfAll_iff.mpr h.lf, by simp only [PyData.weight]; exact h.wt, ?_⟩
  simp only [PyData.depth]
  have := depthAll_iff.mpr h.dp
  omega
theorem Tm.ofTup {b : Int} {w k : Nat} {xs : List PyData} (h : Tm b w (k + 1) (.tuple xs)) : Tms b w k xs := by
  refine ⟨lfAll_iff.mp (by have := h.lf; simpa only [Fd.lf] using this), by have := h.wt; simpa only [PyData.weight] using this, depthAll_iff.mp ?_⟩
  have := h.dp
  simp only [PyData.depth] at this
  omega
theorem Tms.app {b : Int} {w w' k : Nat} {xs ys : List PyData} (h : Tms b w k xs) (h' : Tms b w' k ys) : Tms b (w + w') k (xs ++ ys) := by
  refine ⟨fun x hx => ?_, ?_, fun x hx => ?_⟩
  · rcases List.mem_append.mp hx with z | z
    · exact h.lf x z
    · exact h'.lf x z
  · rw [weightAll_app]
    have := h.wt
    have := h'.wt
    omega
  · rcases List.mem_append.mp hx with z | z
    · exact h.dp x z
    · exact h'.dp x z
theorem Tms.one {b : Int} {w k : Nat} {d : PyData} (h : Tm b w k d) : Tms b (w + 1) k [d] := by
  refine ⟨fun x hx => ?_, ?_, fun x hx => ?_⟩
  · rw [List.mem_singleton] at hx; rw [hx]; exact h.lf
  · simp only [PyData.weightAll]
    have := h.wt
    omega
  · rw [List.mem_singleton] at hx; rw [hx]; exact h.dp
theorem Tms.nil {b : Int} {k : Nat} : Tms b 0 k [] := ⟨fun _ h => (nomatch h), by simp only [PyData.weightAll]; exact Nat.le_refl 0, fun _ h => (nomatch h)⟩
theorem Tms.le {b c : Int} {w w' k k' : Nat} {xs : List PyData} (h : Tms b w k xs) (hb : b ≤ c) (hw : w ≤ w') (hk : k ≤ k') : Tms c w' k' xs := ⟨fun x hx => lf_mono hb (h.lf x hx), Nat.le_trans h.wt hw, fun x hx => Nat.le_trans (h.dp x hx) hk⟩
theorem Tms.get {b : Int} {w k : Nat} {xs : List PyData} {x : PyData} (h : Tms b w k xs) (hx : x ∈ xs) : Tm b w k x := ⟨h.lf x hx, by have := weightAll_mem hx; have := h.wt; omega, h.dp x hx⟩
/-- a part of the items, of no more weight -/
theorem Tms.part {b : Int} {w k : Nat} {xs ys : List PyData} (h : Tms b w k xs) (hm : ∀ y ∈ ys, y ∈ xs) (hw : PyData.weightAll ys ≤ PyData.weightAll xs) : Tms b w k ys := ⟨fun y hy => h.lf y (hm y hy), Nat.le_trans hw h.wt, fun y hy => h.dp y (hm y hy)⟩
theorem weightAll_take_drop (xs : List PyData) (n : Nat) : PyData.weightAll (xs.take n) + PyData.weightAll (xs.drop n) = PyData.weightAll xs := by
  rw [← weightAll_app, List.take_append_drop]
theorem weightAll_rev : ∀ (xs : List PyData), PyData.weightAll xs.reverse = PyData.weightAll xs
  | [] => rfl
  | x :: xs => by
    rw [List.reverse_cons, weightAll_app, weightAll_rev xs]
    simp only [PyData.weightAll]
    omega
theorem tm_int {b i : Int} {n : Nat} (h : -b ≤ i) (h' : i ≤ b) (hn : i.natAbs < 2 ^ n) (n0 : 0 < n) : Tm b n 0 (.int i) := by
  refine ⟨by simp only [lf, h, h', decide_true, Bool.and_self], ?_, by simp only [PyData.depth]; exact Nat.le_refl 0⟩
  have := log2_lt hn n0
  simp only [PyData.weight]
  split <;> omega
theorem tm_none {b : Int} : Tm b 1 0 .none := ⟨rfl, by simp only [PyData.weight]; omega, by simp only [PyData.depth]; exact Nat.le_refl 0⟩
theorem tm_bool {b : Int} (x : Bool) : Tm b 1 0 (.bool x) := ⟨rfl, by simp only [PyData.weight]; omega, by simp only [PyData.depth]; exact Nat.le_refl 0⟩
theorem tm_text {b : Int} (s : String) (n : Nat) (h : (Str.ofString s).length ≤ n) : Tm b n 0 (.str (Str.ofString s)) := by
  refine ⟨?_, by simp only [PyData.weight]; exact h, by simp only [PyData.depth]; exact Nat.le_refl 0⟩
  simp only [lf, List.all_eq_true, decide_eq_true_eq]
  rw [Str.ofString_eq_toList]
  intro c hc
  have hc : c ∈ s.toList.map Char.toNat := hc
  obtain ⟨ch, _, rfl⟩ := List.mem_map.mp hc
  have := ch.valid
  have h2 : ch.toNat < 1114112 := by
    rcases this with z | ⟨_, z⟩
    · exact Nat.lt_trans z (by decide)
    · exact z
  exact Nat.lt_trans h2 (by decide)
theorem len_weight : ∀ (xs : List PyData), xs.length ≤ PyData.weightAll xs
  | [] => Nat.zero_le _
  | x :: xs => by
    have := len_weight xs
    simp only [PyData.weightAll, List.length_cons]
    omega
theorem cut_to {xs : List PyData} {i : Nat} (h : i ≤ xs.length) : cutD xs none (some (i : Int)) = xs.take i := by
  unfold cutD
  rw [HT.sIx_nat, HT.sIx_none, List.drop_zero, Nat.sub_zero, Nat.min_eq_left h]
theorem cut_from {xs : List PyData} {i : Nat} (h : i ≤ xs.length) : cutD xs (some (i : Int)) none = xs.drop i := by
  unfold cutD
  rw [HT.sIx_nat, HT.sIx_none, Nat.min_eq_left h]
  exact List.take_of_length_le (by rw [List.length_drop]; exact Nat.le_refl _)
theorem weight_at {xs : List PyData} {i : Nat} {x : PyData} (h : xs[i]? = some x) : PyData.weightAll (xs.take i) + (x.weight + 1) + PyData.weightAll (xs.drop (i + 1)) = PyData.weightAll xs := by
  have hl : i < xs.length := by
    rcases Nat.lt_or_ge i xs.length with q | q
    · exact q
    · rw [List.getElem?_eq_none q] at h; cases h
  have e := weightAll_take_drop xs i
  rw [List.drop_eq_getElem_cons hl] at e
  have ex : xs[i] = x := by
    rw [List.getElem?_eq_getElem hl] at h
    cases h
    rfl
  rw [ex] at e
  simp only [PyData.weightAll] at e
  omega
theorem gIsN_d {neg : Bool} {x : PyData} {Q : U → Prop} : gIsN neg (.d x) (.d .none) Q = Q (.d (.bool (if neg = true then !isNone x else isNone x))) := rfl
theorem tms_of {α : Type} {b : Int} {w k : Nat} {g : α → PyData} : ∀ {ls : List α}, (∀ a ∈ ls, Tm b w k (g a)) → Tms b (ls.length * (w + 1)) k (ls.map g)
  | [], _ => Tms.nil.le (Int.le_refl _) (Nat.zero_le _) (Nat.le_refl _)
  | a :: ls, h => by
    have t := tms_of fun x hx => h x (List.mem_cons_of_mem _ hx)
    have o := (Tms.one (h a List.mem_cons_self)).app t
    rw [List.map_cons, List.length_cons]
    exact o.le (Int.le_refl _) (by rw [Nat.succ_mul]; omega) (Nat.le_refl _)
end Fd

set_option Elab.async false
set_option linter.all false
set_option maxRecDepth 100000
set_option maxHeartbeats 400000
/-! Fd, part O: the place of an int in a list. -/
namespace Fd
open PySem PySem.Spec PyProof.Rows L2
section
variable {X : Cx} {B : Bs} {a b : Expr} {m : M} {ml : ML} {pos apos : Pos}
def placeOf (ns : List Int) (i : Int) : Option Nat := ns.findIdx? fun n => n == i
theorem xe_index (ha : XL X B a ml fa) (hi : XE X B b m fi) (h : ∀ {t t' : TE}, PE X a t → PE X b t' → PE X (.Call (.Attribute a "index" apos) [b] [] pos) (tBM X.K "list" (rIndex X.K) t (tCons t' tNil))) :
    XE X B (.Call (.Attribute a "index" apos) [b] [] pos) (fun e Q => ml e fun k ds => k ≠ .tup ∧ onIs (fun ns => m e (onI fun i => ∃ j, placeOf ns i = some j ∧ Q (.d (.int (j : Int))))) ds) (sq fa fi) :=
  ⟨fun e P P' hh q => ha.mono e _ _ (fun k ds q => ⟨q.1, onIs_mono (fun ns q => hi.mono e _ _ (onI_mono fun i ⟨j, q1, q2⟩ => ⟨j, q1, hh _ q2⟩) q) ds q.2⟩) q, peW (h ha.pe hi.pe) fun σ H Q ⟨e, G, bq, r, hh⟩ => ha.go r hh fun k ds q v H1 G1 r1 x1 d1 => by
    obtain ⟨hk, q⟩ := q
    obtain ⟨ns, rfl, q5⟩ := onIs_out q
    have lists : ∀ {G2 H2 : Hp}, Same G2 H2 → SqD X.K B.pt G2 H2 v k (ns.map .int) → ∃ a, v = .ref a ∧ SqL X.K H2 a (ns.map V.int) := fun {G2 H2} sub d => by
      obtain ⟨a, vs, e1, s, dd⟩ := d
      have ev := dd.ints
      subst ev
      refine ⟨a, e1, ?_⟩
      cases k with
      | tup => exact absurd rfl hk
      | lst => exact .inl (.inl s.1)
      | scr => exact sub.seq s
    obtain ⟨a1, e1, s1⟩ := lists r1.sub d1
    refine ⟨by rw [e1]; exact .inl ⟨rfl, _, s1⟩, hi.go r1 q5 fun u q w H2 G2 r2 x2 d2 => ?_⟩
    obtain ⟨i, rfl, j, q1, q2⟩ := onI_out q
    cases d2
    obtain ⟨a2, e2, s2⟩ := lists r2.sub (d1.mono x2.same x2.ext)
    unfold placeOf at q1
    rw [List.findIdx?_eq_some_iff_getElem] at q1
    obtain ⟨hj, p1, p2⟩ := q1
    refine ⟨a2, ns.map V.int, .int i, j, .int ns[j], e2, rfl, s2, rfl, ?_, ?_, ?_, fun m z hm hz => ?_, q2 _ H2 G2 r2 (x1.trans x2) (.int _)⟩
    · rw [List.all_map]
      exact List.all_eq_true.mpr fun _ _ => rfl
    · rw [List.getElem?_map, List.getElem?_eq_getElem hj]
      rfl
    · exact p1
    · have hm2 : m < ns.length := by omega
      rw [List.getElem?_map, List.getElem?_eq_getElem hm2] at hz
      cases hz
      have := p2 m hm
      show (ns[m] == i) = false
      exact Bool.eq_false_iff.mpr this⟩
theorem place_ex : ∀ {ns : List Int} {i : Int}, i ∈ ns → ∃ j, placeOf ns i = some j
  | ns, i, h => by
    unfold placeOf
    cases q : ns.findIdx? (fun n => n == i) with
    | some j => exact ⟨j, rfl⟩
    | none =>
      rw [List.findIdx?_eq_none_iff] at q
      have := q i h
      simp at this
end
end Fd

set_option Elab.async false
set_option linter.all false
set_option maxRecDepth 100000
set_option maxHeartbeats 400000
/-! Fd, part Q: permutations and sums in plain Lean. -/
namespace Fd
open PySem PySem.Spec PyProof.Rows L2
theorem perm_pop {α : Type} : ∀ {l : List α} {i : Nat} (h : i < l.length), (l[i] :: l.eraseIdx i).Perm l
  | [], i, h => absurd h (Nat.not_lt_zero _)
  | a :: l, 0, _ => List.Perm.refl _
  | a :: l, i + 1, h => by
    have hi : i < l.length := by simpa using h
    have ih := perm_pop (l := l) (i := i) hi
    show (l[i] :: a :: l.eraseIdx i).Perm (a :: l)
    exact (List.Perm.swap _ _ _).trans (ih.cons a)
theorem perm_sum {l m : List Int} (h : l.Perm m) : l.sum = m.sum := by
  induction h with
  | nil => rfl
  | cons x _ ih => rw [List.sum_cons, List.sum_cons, ih]
  | swap x y l => rw [List.sum_cons, List.sum_cons, List.sum_cons, List.sum_cons]; omega
  | trans _ _ a b => exact a.trans b
theorem perm_of_map {α : Type} {g : α → PyData} {es xs : List PyData} (h : es.Perm xs) : ∀ ls : List α, xs = ls.map g → ∃ ks : List α, es = ks.map g ∧ ks.Perm ls := by
  induction h with
  | nil =>
    intro ls e
    cases ls with
    | nil => exact ⟨[], rfl, .nil⟩
    | cons a ls => cases e
  | cons x _ ih =>
    intro ls e
    cases ls with
    | nil => cases e
    | cons a ls =>
      rw [List.map_cons] at e
      injection e with e1 e2
      obtain ⟨ks, k1, k2⟩ := ih ls e2
      exact ⟨a :: ks, by rw [List.map_cons, k1, e1], k2.cons a⟩
  | swap x y l =>
    intro ls e
    cases ls with
    | nil => cases e
    | cons a ls =>
      cases ls with
      | nil => cases e
      | cons b ls =>
        rw [List.map_cons, List.map_cons] at e
        injection e with e1 e2
        injection e2 with e2 e3
        exact ⟨b :: a :: ls, by rw [List.map_cons, List.map_cons, e1, e2, e3], .swap a b ls⟩
  | trans _ _ ih1 ih2 =>
    intro ls e
    obtain ⟨ks, k1, k2⟩ := ih2 ls e
    obtain ⟨js, j1, j2⟩ := ih1 ks k1
    exact ⟨js, j1, j2.trans k2⟩
theorem sum_map_mul (c : Int) : ∀ (l : List Int), (l.map (· * c)).sum = l.sum * c
  | [] => by simp
  | x :: l => by
    rw [List.map_cons, List.sum_cons, List.sum_cons, sum_map_mul c l, Int.add_mul]
theorem sum_range_one (p : Nat) : ∀ n : Nat, p < n → ((List.range n).map fun j => if j = p then (1 : Int) else 0).sum = 1
  | 0, h => absurd h (Nat.not_lt_zero _)
  | n + 1, h => by
    rw [List.range_succ, List.map_append, List.sum_append, List.map_cons, List.map_nil, List.sum_cons, List.sum_nil]
    by_cases e : n = p
    · subst e
      have z : ∀ m : Nat, m ≤ n → ((List.range m).map fun j => if j = n then (1 : Int) else 0).sum = 0 := fun m => by
        induction m with
        | zero => intro _; rfl
        | succ m ih =>
          intro hm
          rw [List.range_succ, List.map_append, List.sum_append, ih (by omega), List.map_cons, List.map_nil, List.sum_cons, List.sum_nil, if_neg (by omega)]
          rfl
      rw [z n (Nat.le_refl n), if_pos rfl]
      rfl
    · rw [sum_range_one p n (by omega), if_neg e]
      rfl
end Fd

set_option Elab.async false
set_option linter.all false
set_option maxRecDepth 100000
set_option maxHeartbeats 4000000
/-! Fd, part Z: zip(*rows): zip over any number of lists and tuples. -/
namespace Fd
open PySem PySem.Spec PyProof.Rows L2
open PySem.Sem (wp)
/-- one of zip's iterators: over a tuple or a list -/
structure Zp where
  tup : Bool
  it : Addr
  src : Addr
def Zp.At (h : Heap) (k : Nat) (p : Zp) : Prop := if p.tup = true then h.IsTupleIter p.it p.src k else h.IsListIter p.it p.src k
def Zp.Of (h : Heap) (p : Zp) (xs : List Value) : Prop := if p.tup = true then h.IsTuple p.src xs.toArray else h.IsList p.src xs.toArray
section
variable {prog : Program} {w : World} {A : Around} {E : Value → Shared → Prop} {s : Shared} {h h' : Heap} {p : Zp} {k : Nat} {xs : List Value} {x : Value}
theorem Zp.At.to (a : p.At h k) (e : ∀ o, h.get? p.it = some o → h'.get? p.it = some o) : p.At h' k := by
  unfold Zp.At at a ⊢
  split
  · rename_i q
    rw [if_pos q] at a
    exact a.at e
  · rename_i q
    rw [if_neg q] at a
    exact a.at e
theorem Zp.Of.to (a : p.Of h xs) (e : ∀ o, h.get? p.src = some o → h'.get? p.src = some o) : p.Of h' xs := by
  unfold Zp.Of at a ⊢
  split
  · rename_i q
    rw [if_pos q] at a
    obtain ⟨o, h1, h2⟩ := a
    exact ⟨o, e o h1, h2⟩
  · rename_i q
    rw [if_neg q] at a
    exact a.at e
theorem Zp.At.some (a : p.At h k) : ∃ (cls : Value) (vs : Array Value), h.get? p.it = Option.some { cls := cls, dict := none, data := .fields vs, slots := #[] } ∨ ∃ o, h.get? p.it = Option.some o ∧ ∀ v, o.data ≠ .cell v := by
  unfold Zp.At at a
  split at a
  · obtain ⟨o, h1, h2, h3⟩ := a
    exact ⟨.none, #[], .inr ⟨o, h1, fun v q => by rw [h3] at q; cases q⟩⟩
  · obtain ⟨o, h1, h2, h3⟩ := a
    exact ⟨.none, #[], .inr ⟨o, h1, fun v q => by rw [h3] at q; cases q⟩⟩
theorem zp_item {Q : Value → Shared → Prop} (h1 : p.At s.heap k) (h2 : p.Of s.heap xs) (hx : xs[k]? = some x) (hQ : ∀ h', p.At h' (k + 1) → Heap.SameBut p.it s.heap h' → Q x { s with heap := h' }) :
    wpAny (model prog w) A (Builtin.SmallTypes.nextOf (.ref p.it)) Q E s := by
  unfold Zp.At at h1 hQ
  unfold Zp.Of at h2
  by_cases q : p.tup = true
  · rw [if_pos q] at h1 h2
    refine RZ.nextOf_tuple_item h1 h2 (by simpa using hx) fun h' a b => hQ h' ?_ b
    rw [if_pos q]
    exact a
  · rw [if_neg q] at h1 h2
    refine wpAny_nextOf_list_item h1 h2 (by simpa using hx) fun h' a b => hQ h' ?_ b
    rw [if_neg q]
    exact a
theorem zp_end {Q : Value → Shared → Prop} (hh : A.handled = none) (h1 : p.At s.heap k) (h2 : p.Of s.heap xs) (hx : xs[k]? = none)
    (hE : ∀ h' e, Heap.ExtBut p.it s.heap h' → (∃ o, h'.get? e = some o ∧ o.cls = .type "StopIteration") → E (.ref e) { s with heap := h' }) :
    wpAny (model prog w) A (Builtin.SmallTypes.nextOf (.ref p.it)) Q E s := by
  unfold Zp.At at h1
  unfold Zp.Of at h2
  by_cases q : p.tup = true
  · rw [if_pos q] at h1 h2
    exact RZ.nextOf_tuple_end hh h1 h2 (by simpa using hx) hE
  · rw [if_neg q] at h1 h2
    exact wpAny_nextOf_list_end hh h1 h2 (by simpa using hx) hE
/-- zip's own object -/
abbrev ZObj (h : Heap) (z TI TO : Addr) (f0 : Value) (f1 : Bool) : Prop :=
  h.get? z = some { cls := .type "zip", dict := none, data := .fields #[f0, .bool f1, .bool false, .ref TI, .ref TO], slots := #[] }
abbrev ZTup (h : Heap) (T : Addr) (vs : List Value) : Prop := h.get? T = some { cls := .type "tuple", data := .seq vs.toArray }
structure ZApart (z TI TO : Addr) (ps : List Zp) : Prop where
  TIz : TI ≠ z
  TOz : TO ≠ z
  TITO : TI ≠ TO
  iz : ∀ p ∈ ps, p.it ≠ z
  iTI : ∀ p ∈ ps, p.it ≠ TI
  iTO : ∀ p ∈ ps, p.it ≠ TO
  nd : (ps.map (·.it)).Nodup
  sz : ∀ p ∈ ps, p.src ≠ z
  sTO : ∀ p ∈ ps, p.src ≠ TO
  si : ∀ p ∈ ps, ∀ q ∈ ps, p.src ≠ q.it
structure ZAt (h : Heap) (z TI TO : Addr) (ps : List Zp) (k : Nat) : Prop where
  z : ∃ f0 f1, (f0 = Value.none ∨ ∃ T : Addr, f0 = rawInt T) ∧ ZObj h z TI TO f0 f1
  ti : ZTup h TI (ps.map fun p => Value.ref p.it)
  to : ∃ vs : List Value, vs.length = ps.length ∧ ZTup h TO vs
  its : ∀ p ∈ ps, p.At h k
/-- what one turn leaves as it was -/
def ZKeep (z TO : Addr) (ps : List Zp) (h h' : Heap) : Prop := ∀ c o, c ≠ z → c ≠ TO → (∀ p ∈ ps, c ≠ p.it) → h.get? c = some o → h'.get? c = some o
theorem ZKeep.refl {z TO : Addr} {ps : List Zp} : ZKeep z TO ps h h := fun _ _ _ _ _ e => e
theorem ZKeep.trans {z TO : Addr} {ps : List Zp} {h₁ h₂ h₃ : Heap} (a : ZKeep z TO ps h₁ h₂) (b : ZKeep z TO ps h₂ h₃) : ZKeep z TO ps h₁ h₃ := fun c o c1 c2 c3 e => b c o c1 c2 c3 (a c o c1 c2 c3 e)
theorem wpAny_alive {M : Model} {a : Addr} {Q : Option Obj → Shared → Prop} (h : Q (s.heap.get? a) s) : wpAny M A (loadIfAlive a) Q E s := fun Γ p _ => by
  unfold loadIfAlive
  rw [Sem.wp_loadIfAlive]
  exact h
theorem owned_free {z TI TO : Addr} {f0 : Value} {f1 : Bool} {Q : Bool → Shared → Prop} (hz : ZObj s.heap z TI TO f0 f1) (hf : f0 = Value.none ∨ ∃ T : Addr, f0 = rawInt T)
    (hQ : ∀ b h' f1', ZObj h' z TI TO f0 f1' → Heap.SameBut z s.heap h' → Q b { s with heap := h' }) : wpAny (model prog w) A (Builtin.SmallTypes.ownedTupleIsFree (.ref z)) Q E s := by
  unfold Builtin.SmallTypes.ownedTupleIsFree
  refine wpAny_bind (wpAny_field hz rfl (x := f0) rfl ?_)
  rcases hf with rfl | ⟨T, rfl⟩
  · exact wpAny_pure (hQ true s.heap f1 hz (.refl ..))
  · show wpAny _ _ (loadIfAlive _ >>= _) _ _ _
    refine wpAny_bind (wpAny_alive ?_)
    cases hg : (s.heap.get? (T : Int).toNat).isNone with
    | true =>
      simp only [if_true]
      exact wpAny_pure (hQ true s.heap f1 hz (.refl ..))
    | false =>
      simp only [Bool.false_eq_true, if_false]
      refine wpAny_bind (wpAny_field hz rfl (x := .bool f1) rfl ?_)
      cases f1 with
      | true => exact wpAny_pure (hQ false s.heap true hz (.refl ..))
      | false =>
        refine wpAny_bind ?_
        exact wpAny_setField_rec hz (by simp) fun h' hz' hs' => wpAny_pure (hQ false h' true hz' hs')
theorem zset {T : Addr} {vs : List Value} {j : Nat} {Q : Unit → Shared → Prop} (hT : ZTup s.heap T vs) (hl : vs.length ≤ 1000)
    (hQ : ∀ h', ZTup h' T (vs.set j x) → Heap.SameBut T s.heap h' → Q () { s with heap := h' }) : wpAny (model prog w) A (updateSeq T (·.setIfInBounds j x)) Q E s := by
  refine wpAny_updateSeq hT rfl (hQ _ ?_ (Heap.SameBut.update ..)) (by rw [List.size_toArray, sizeLine_eq]; omega) (by rw [Array.size_setIfInBounds, List.size_toArray, sizeLine_eq]; omega)
  show Heap.get? _ _ = _
  rw [Heap.get?_update_self _ hT rfl]
  simp [Obj.mapSeq]
theorem set_mid {α β : Type} (f : α → β) (dn : List α) (p : α) : ∀ old : List β, dn.length < old.length → (dn.map f ++ old.drop dn.length).set dn.length (f p) = (dn ++ [p]).map f ++ old.drop (dn ++ [p]).length := fun old h => by
  rw [List.set_append_right _ _ (by rw [List.length_map]; exact Nat.le_refl _), List.length_map, Nat.sub_self, List.drop_eq_getElem_cons h, List.set_cons_zero, List.map_append, List.append_assoc, List.length_append]
  rfl
structure ZMid (s : Shared) (z TI TO : Addr) (ps : List Zp) (f : Zp → Value) (old : List Value) (k : Nat) (f1 : Bool) (dn rs : List Zp) (h : Heap) : Prop where
  eq : ps = dn ++ rs
  zo : ZObj h z TI TO .ellipsis f1
  to : ZTup h TO (dn.map f ++ old.drop dn.length)
  did : ∀ p ∈ dn, p.At h (k + 1)
  due : ∀ p ∈ rs, p.At h k
  sz : h.objs.size = s.heap.objs.size
  kp : ZKeep z TO ps s.heap h
structure ZNid (s : Shared) (z TI TO : Addr) (ps : List Zp) (f0 : Value) (old : List Value) (k : Nat) (f1 : Bool) (dn rs : List Zp) (h : Heap) : Prop where
  eq : ps = dn ++ rs
  zo : ZObj h z TI TO f0 f1
  to : ZTup h TO old
  did : ∀ p ∈ dn, p.At h (k + 1)
  due : ∀ p ∈ rs, p.At h k
  sz : h.objs.size = s.heap.objs.size
  kp : ZKeep z TO ps s.heap h
theorem znext_item {z TI TO : Addr} {ps : List Zp} {f : Zp → Value} {Q : Value → Shared → Prop} (D : ZApart z TI TO ps) (ne : ps ≠ []) (hl : ps.length ≤ 1000) (st : ZAt s.heap z TI TO ps k)
    (hx : ∀ p ∈ ps, ∃ xs : List Value, p.Of s.heap xs ∧ xs[k]? = some (f p))
    (hQ : ∀ h', ZAt h' z TI TO ps (k + 1) → ZTup h' s.heap.objs.size (ps.map f) → h'.objs.size = s.heap.objs.size + 1 → ZKeep z TO ps s.heap h' → Q (.ref s.heap.objs.size) { s with heap := h' }) :
    wpAny (model prog w) A (Builtin.«zip.__next__» ⟨[.ref z], []⟩) (fun fin s' => ∃ v, fin = .done (.ret v) ∧ Q v s') E s := by
  obtain ⟨f0, f1, hf, hz⟩ := st.z
  obtain ⟨old, ol, hTO⟩ := st.to
  show wpAny _ _ (field (.ref z) 2 >>= _) _ _ _
  refine wpAny_bind (wpAny_field hz rfl (x := .bool false) rfl ?_)
  show wpAny _ _ (field (.ref z) 3 >>= _) _ _ _
  refine wpAny_bind (wpAny_field hz rfl (x := .ref TI) rfl ?_)
  refine wpAny_bind (wpAny_seqItems st.ti rfl ?_)
  have hem : (ps.map fun p => Value.ref p.it).toArray.isEmpty = false := by
    cases ps with
    | nil => exact absurd rfl ne
    | cons p ps => rfl
  simp only [hem, Bool.false_eq_true, if_false]
  refine wpAny_bind (owned_free hz hf fun b h₁ f1' hz₁ hs₁ => ?_)
  have kp₁ : ZKeep z TO ps s.heap h₁ := fun c o c1 _ _ e => hs₁.extBut _ _ c1 e
  have hTO₁ : ZTup h₁ TO old := hs₁.extBut _ _ D.TOz hTO
  have hTI₁ : ZTup h₁ TI (ps.map fun p => Value.ref p.it) := hs₁.extBut _ _ D.TIz st.ti
  have its₁ : ∀ p ∈ ps, p.At h₁ k := fun p hp => (st.its p hp).to fun o e => hs₁.extBut _ _ (D.iz p hp) e
  cases b with
  | true =>
    simp only [if_true]
    refine wpAny_bind (wpAny_rule ?_)
    refine wpAny_bind (wpAny_field hz₁ rfl (x := .ref TO) rfl ?_)
    refine wpAny_bind (wpAny_setField_rec hz₁ (by simp) fun h₂ hz₂ hs₂ => ?_)
    replace hz₂ : ZObj h₂ z TI TO .ellipsis f1' := hz₂
    have kp₂ : ZKeep z TO ps s.heap h₂ := kp₁.trans fun c o c1 _ _ e => hs₂.extBut _ _ c1 e
    refine wpAny_bind (wpAny_mono (wpAny_forIn_list _ (fun (l : List (Value × Nat)) (b : Option Fin × Unit) s' => b = (none, ()) ∧ ∃ dn rs h', l = (rs.map fun p => Value.ref p.it).zipIdx dn.length ∧ s' = { s with heap := h' } ∧ ZMid s z TI TO ps f old k f1' dn rs h')
      (fun b s' => b = (none, ()) ∧ ∃ h', s' = { s with heap := h' } ∧ ZMid s z TI TO ps f old k f1' ps [] h') ?turn ?fin _ _ ?start) (fun b s' hq => ?after) fun _ _ x => x)
    case start =>
      refine ⟨rfl, [], ps, h₂, rfl, rfl, ⟨rfl, hz₂, ?_, fun p hp => (nomatch hp), fun p hp => (its₁ p hp).to fun o e => hs₂.extBut _ _ (D.iz p hp) e, hs₂.1.trans hs₁.1, kp₂⟩⟩
      exact hs₂.extBut _ _ D.TOz hTO₁
    case fin =>
      rintro b s' ⟨hb, dn, rs, h', el, es, m⟩
      refine ⟨hb, h', es, ?_⟩
      cases rs with
      | cons p rs => rw [List.map_cons, List.zipIdx_cons] at el; cases el
      | nil =>
        have e := m.eq
        rw [List.append_nil] at e
        subst e
        exact m
    case turn =>
      rintro x rest b s' ⟨hb, dn, rs, h', el, es, m⟩
      subst hb es
      cases rs with
      | nil => cases el
      | cons p rs =>
        rw [List.map_cons, List.zipIdx_cons] at el
        cases el
        have hp : p ∈ ps := by rw [m.eq]; simp
        obtain ⟨xs, hof, hxs⟩ := hx p hp
        refine wpAny_bind (wpAny_onRaise ?_)
        show wpAny _ _ (Builtin.SmallTypes.nextOf (.ref p.it) >>= _) _ _ _
        refine wpAny_bind (zp_item (s := { s with heap := h' }) (m.due p List.mem_cons_self) (hof.to fun o e => m.kp _ o (D.sz p hp) (D.sTO p hp) (D.si p hp) e) hxs fun h₃ at₃ sb₃ => wpAny_pure ?_)
        have hTO₃ : ZTup h₃ TO (dn.map f ++ old.drop dn.length) := sb₃.extBut _ _ (D.iTO p hp).symm m.to
        have hlen : ps.length = dn.length + (rs.length + 1) := by rw [m.eq, List.length_append, List.length_cons]
        refine wpAny_bind (wpAny_seqItems hTO₃ rfl ?_)
        refine wpAny_bind (zset hTO₃ (by rw [List.length_append, List.length_map, List.length_drop]; omega) fun h₄ hTO₄ sb₄ => ?_)
        rw [set_mid f dn p old (by omega)] at hTO₄
        refine wpAny_bind (wpAny_letGo (wpAny_pure ?_))
        have nd := D.nd
        have epp : ps = (dn ++ [p]) ++ rs := by rw [m.eq]; simp
        rw [epp, List.map_append, List.nodup_append, List.map_append, List.nodup_append] at nd
        have up : ∀ q ∈ ps, q.it ≠ p.it → ∀ o, h'.get? q.it = some o → h₄.get? q.it = some o := fun q hq hn o e => sb₄.extBut _ _ (D.iTO q hq) (sb₃.extBut _ _ hn e)
        refine ⟨rfl, dn ++ [p], rs, h₄, by rw [List.length_append]; rfl, rfl, ⟨epp, ?_, hTO₄, fun q hq => ?_, fun q hq => ?_, ?_, ?_⟩⟩
        · exact sb₄.extBut _ _ D.TOz.symm (sb₃.extBut _ _ (D.iz p hp).symm m.zo)
        · rcases List.mem_append.mp hq with z1 | z1
          · refine (m.did q z1).to fun o e => up q (by rw [m.eq]; exact List.mem_append_left _ z1) ?_ o e
            exact nd.1.2.2 q.it (List.mem_map.mpr ⟨q, z1, rfl⟩) p.it (by simp)
          · rw [List.mem_singleton.mp z1]
            exact at₃.to fun o e => sb₄.extBut _ _ (D.iTO p hp) e
        · refine (m.due q (List.mem_cons_of_mem _ hq)).to fun o e => up q (by rw [m.eq]; exact List.mem_append_right _ (List.mem_cons_of_mem _ hq)) ?_ o e
          exact (nd.2.2 p.it (by simp) q.it (List.mem_map.mpr ⟨q, hq, rfl⟩)).symm
        · rw [sb₄.1, sb₃.1]; exact m.sz
        · exact m.kp.trans fun c o c1 c2 c3 e => sb₄.extBut _ _ c2 (sb₃.extBut _ _ (c3 p hp) e)
    case after =>
      obtain ⟨rfl, h', rfl, m⟩ := hq
      have hTO' : ZTup h' TO (ps.map f) := by
        have := m.to
        rw [List.drop_of_length_le (by omega), List.append_nil] at this
        exact this
      refine wpAny_bind (wpAny_seqItems hTO' rfl ?_)
      refine wpAny_bind (wpAny_newTuple ?_ (by show (ps.map f).length ≤ sizeLine; rw [List.length_map, sizeLine_eq]; omega))
      show wpAny _ _ (Builtin.SmallTypes.ownedTupleHandOut (.ref z) (.ref h'.objs.size) >>= _) _ _ _
      refine wpAny_bind ?_
      unfold Builtin.SmallTypes.ownedTupleHandOut
      have lt : ∀ c, (∃ o, h'.get? c = some o) → c < h'.objs.size := fun c ⟨o, e⟩ => Heap.lt_size e
      have zl : z < h'.objs.size := lt z ⟨_, m.zo⟩
      have hz₅ : ZObj (h'.push { cls := .type "tuple", data := .seq (ps.map f).toArray }) z TI TO .ellipsis f1' := Heap.get?_push_of_some _ m.zo
      refine wpAny_bind (wpAny_setField_rec hz₅ (by simp) fun h₆ hz₆ hs₆ => ?_)
      replace hz₆ : ZObj h₆ z TI TO (rawInt h'.objs.size) f1' := hz₆
      refine wpAny_setField_rec hz₆ (by simp) fun h₇ hz₇ hs₇ => ?_
      replace hz₇ : ZObj h₇ z TI TO (rawInt h'.objs.size) false := hz₇
      have up : ∀ c o, c ≠ z → h'.get? c = some o → h₇.get? c = some o := fun c o c1 e => hs₇.extBut _ _ c1 (hs₆.extBut _ _ c1 (Heap.get?_push_of_some _ e))
      refine wpAny_pure ⟨_, rfl, ?_⟩
      have hT : ZTup h₇ h'.objs.size (ps.map f) := hs₇.extBut _ _ (Nat.ne_of_gt zl) (hs₆.extBut _ _ (Nat.ne_of_gt zl) (Heap.get?_push_size _ rfl))
      have h8 : h₇.objs.size = h'.objs.size + 1 := by rw [hs₇.1, hs₆.1, Heap.size_push]
      show Q (.ref h'.objs.size) _
      rw [m.sz] at hT h8 ⊢
      have kk : ZKeep z TO ps s.heap h₇ := m.kp.trans fun c o c1 _ _ e => up c o c1 e
      exact hQ h₇ ⟨⟨_, _, .inr ⟨_, rfl⟩, hz₇⟩, kk _ _ D.TIz D.TITO (fun p hp => (D.iTI p hp).symm) st.ti, ⟨_, by rw [List.length_map], up _ _ D.TOz hTO'⟩, fun p hp => (m.did p hp).to fun o e => up _ o (D.iz p hp) e⟩ hT h8 kk
  | false =>
    simp only [Bool.false_eq_true, if_false]
    refine wpAny_bind (wpAny_mono (wpAny_forIn_array' _ (fun (l : List Value) (b : Option Fin × Array Value) s' => ∃ dn rs h', b = (none, (dn.map f).toArray) ∧ l = rs.map (fun p => Value.ref p.it) ∧ s' = { s with heap := h' } ∧ ZNid s z TI TO ps f0 old k f1' dn rs h')
      (fun b s' => b = (none, (ps.map f).toArray) ∧ ∃ h', s' = { s with heap := h' } ∧ ZNid s z TI TO ps f0 old k f1' ps [] h') ?turn ?fin _ _ ?start) (fun b s' hq => ?after) fun _ _ x => x)
    case start => exact ⟨[], ps, h₁, rfl, rfl, rfl, ⟨rfl, hz₁, hTO₁, fun p hp => (nomatch hp), its₁, hs₁.1, kp₁⟩⟩
    case fin =>
      rintro b s' ⟨dn, rs, h', hb, el, es, m⟩
      cases rs with
      | cons p rs => cases el
      | nil =>
        have e := m.eq
        rw [List.append_nil] at e
        subst e
        exact ⟨hb, h', es, m⟩
    case turn =>
      rintro x rest b s' ⟨dn, rs, h', hb, el, es, m⟩
      subst hb es
      cases rs with
      | nil => cases el
      | cons p rs =>
        rw [List.map_cons] at el
        cases el
        have hp : p ∈ ps := by rw [m.eq]; simp
        obtain ⟨xs, hof, hxs⟩ := hx p hp
        refine wpAny_bind (wpAny_holding ?_)
        show wpAny _ _ (Builtin.SmallTypes.nextOf (.ref p.it) >>= _) _ _ _
        refine wpAny_bind (zp_item (s := { s with heap := h' }) (m.due p List.mem_cons_self) (hof.to fun o e => m.kp _ o (D.sz p hp) (D.sTO p hp) (D.si p hp) e) hxs fun h₃ at₃ sb₃ => wpAny_pure ?_)
        have nd := D.nd
        have epp : ps = (dn ++ [p]) ++ rs := by rw [m.eq]; simp
        rw [epp, List.map_append, List.nodup_append, List.map_append, List.nodup_append] at nd
        have up : ∀ q ∈ ps, q.it ≠ p.it → ∀ o, h'.get? q.it = some o → h₃.get? q.it = some o := fun q hq hn o e => sb₃.extBut _ _ hn e
        refine wpAny_pure ⟨dn ++ [p], rs, h₃, by simp, rfl, rfl, ⟨epp, sb₃.extBut _ _ (D.iz p hp).symm m.zo, sb₃.extBut _ _ (D.iTO p hp).symm m.to, fun q hq => ?_, fun q hq => ?_, ?_, ?_⟩⟩
        · rcases List.mem_append.mp hq with z1 | z1
          · refine (m.did q z1).to fun o e => up q (by rw [m.eq]; exact List.mem_append_left _ z1) ?_ o e
            exact nd.1.2.2 q.it (List.mem_map.mpr ⟨q, z1, rfl⟩) p.it (by simp)
          · rw [List.mem_singleton.mp z1]
            exact at₃
        · refine (m.due q (List.mem_cons_of_mem _ hq)).to fun o e => up q (by rw [m.eq]; exact List.mem_append_right _ (List.mem_cons_of_mem _ hq)) ?_ o e
          exact (nd.2.2 p.it (by simp) q.it (List.mem_map.mpr ⟨q, hq, rfl⟩)).symm
        · rw [sb₃.1]; exact m.sz
        · exact m.kp.trans fun c o c1 c2 c3 e => sb₃.extBut _ _ (c3 p hp) e
    case after =>
      obtain ⟨rfl, h', rfl, m⟩ := hq
      refine wpAny_bind (wpAny_newTuple ?_ (by show (ps.map f).length ≤ sizeLine; rw [List.length_map, sizeLine_eq]; omega))
      have hzl : z < h'.objs.size := Heap.lt_size m.zo
      have up : ∀ c o, h'.get? c = some o → (h'.push { cls := .type "tuple", data := .seq (ps.map f).toArray }).get? c = some o := fun c o e => Heap.get?_push_of_some _ e
      refine wpAny_pure ⟨_, rfl, ?_⟩
      have hT : ZTup (h'.push { cls := .type "tuple", data := .seq (ps.map f).toArray }) h'.objs.size (ps.map f) := Heap.get?_push_size _ rfl
      have h8 : (h'.push { cls := .type "tuple", data := .seq (ps.map f).toArray }).objs.size = h'.objs.size + 1 := Heap.size_push _ _
      show Q (.ref h'.objs.size) _
      rw [m.sz] at hT h8 ⊢
      have kk : ZKeep z TO ps s.heap (h'.push { cls := .type "tuple", data := .seq (ps.map f).toArray }) := m.kp.trans fun c o _ _ _ e => up c o e
      exact hQ _ ⟨⟨_, _, hf, up _ _ m.zo⟩, kk _ _ D.TIz D.TITO (fun p hp => (D.iTI p hp).symm) st.ti, ⟨old, ol, up _ _ m.to⟩, fun p hp => (m.did p hp).to fun o e => up _ o e⟩ hT h8 kk
theorem znext_end {z TI TO : Addr} {p : Zp} {ps : List Zp} {Q : PySem.Fin → Shared → Prop} (hh : A.handled = none) (D : ZApart z TI TO (p :: ps)) (st : ZAt s.heap z TI TO (p :: ps) k) (hof : p.Of s.heap xs) (hx : xs[k]? = none)
    (hE : ∀ h' e, ZKeep z TO (p :: ps) s.heap h' → (∃ o, h'.get? e = some o ∧ o.cls = .type "StopIteration") → E (.ref e) { s with heap := h' }) :
    wpAny (model prog w) A (Builtin.«zip.__next__» ⟨[.ref z], []⟩) Q E s := by
  obtain ⟨f0, f1, hf, hz⟩ := st.z
  obtain ⟨old, ol, hTO⟩ := st.to
  have hp : p ∈ p :: ps := List.mem_cons_self
  show wpAny _ _ (field (.ref z) 2 >>= _) _ _ _
  refine wpAny_bind (wpAny_field hz rfl (x := .bool false) rfl ?_)
  show wpAny _ _ (field (.ref z) 3 >>= _) _ _ _
  refine wpAny_bind (wpAny_field hz rfl (x := .ref TI) rfl ?_)
  refine wpAny_bind (wpAny_seqItems st.ti rfl ?_)
  have hem : ((p :: ps).map fun p => Value.ref p.it).toArray.isEmpty = false := rfl
  simp only [hem, Bool.false_eq_true, if_false]
  refine wpAny_bind (owned_free hz hf fun b h₁ f1' hz₁ hs₁ => ?_)
  have kp₁ : ZKeep z TO (p :: ps) s.heap h₁ := fun c o c1 _ _ e => hs₁.extBut _ _ c1 e
  have hTO₁ : ZTup h₁ TO old := hs₁.extBut _ _ D.TOz hTO
  have at₁ : p.At h₁ k := (st.its p hp).to fun o e => hs₁.extBut _ _ (D.iz p hp) e
  have of₁ : p.Of h₁ xs := hof.to fun o e => hs₁.extBut _ _ (D.sz p hp) e
  cases b with
  | true =>
    simp only [if_true]
    refine wpAny_bind (wpAny_rule ?_)
    refine wpAny_bind (wpAny_field hz₁ rfl (x := .ref TO) rfl ?_)
    refine wpAny_bind (wpAny_setField_rec hz₁ (by simp) fun h₂ hz₂ hs₂ => ?_)
    replace hz₂ : ZObj h₂ z TI TO .ellipsis f1' := hz₂
    simp only [List.map_cons, List.zipIdx_cons, List.forIn_cons]
    refine wpAny_bind (wpAny_bind (wpAny_bind (wpAny_onRaise ?_)))
    show wpAny _ _ (Builtin.SmallTypes.nextOf (.ref p.it) >>= _) _ _ _
    refine wpAny_bind (zp_end (s := { s with heap := h₂ }) hh (at₁.to fun o e => hs₂.extBut _ _ (D.iz p hp) e) (of₁.to fun o e => hs₂.extBut _ _ (D.sz p hp) e) hx fun h₃ e hs₃ he => ?_)
    obtain ⟨oe, hoe, hce⟩ := he
    have hz₃ : ZObj h₃ z TI TO .ellipsis f1' := hs₃ _ _ (D.iz p hp).symm hz₂
    have hez : e ≠ z := fun x => by subst x; rw [hz₃] at hoe; cases hoe; simp at hce
    refine wpAny_setField_rec hz₃ (by simp) fun h₄ _ hs₄ => hE h₄ e ?_ ⟨oe, hs₄.extBut _ _ hez hoe, hce⟩
    exact kp₁.trans fun c o c1 c2 c3 e => hs₄.extBut _ _ c1 (hs₃ _ _ (c3 p hp) (hs₂.extBut _ _ c1 e))
  | false =>
    simp only [Bool.false_eq_true, if_false]
    rw [← Array.forIn_toList]
    simp only [List.map_cons, List.forIn_cons]
    refine wpAny_bind (wpAny_bind (wpAny_bind (wpAny_holding ?_)))
    show wpAny _ _ (Builtin.SmallTypes.nextOf (.ref p.it) >>= _) _ _ _
    refine wpAny_bind (zp_end (s := { s with heap := h₁ }) hh at₁ of₁ hx fun h₃ e hs₃ he => ?_)
    exact hE h₃ e (kp₁.trans fun c o c1 c2 c3 e => hs₃ _ _ (c3 p hp) e) he
theorem zpy_item {z TI TO : Addr} {ps : List Zp} {f : Zp → Value} {Q : Option Value → Shared → Prop} (D : ZApart z TI TO ps) (ne : ps ≠ []) (hl : ps.length ≤ 1000) (st : ZAt s.heap z TI TO ps k)
    (hx : ∀ p ∈ ps, ∃ xs : List Value, p.Of s.heap xs ∧ xs[k]? = some (f p))
    (hQ : ∀ h', ZAt h' z TI TO ps (k + 1) → ZTup h' s.heap.objs.size (ps.map f) → h'.objs.size = s.heap.objs.size + 1 → ZKeep z TO ps s.heap h' → Q (some (.ref s.heap.objs.size)) { s with heap := h' }) :
    wpAny (model prog w) A (pyNext (.ref z)) Q E s := by
  obtain ⟨f0, f1, hf, hz⟩ := st.z
  have hT : s.TypeIs (.ref z) "zip" := ⟨_, hz, rfl⟩
  unfold pyNext
  exact wpAny_bind (wpAny_attempt (wpAny_callSpecial?_slot (name := Str.ofString "__next__") hT F.slot_zip_next
    (wpAny_call_entry F.slot_zip_next hT F.entry_zip_next
      (znext_item D ne hl st hx fun h' a1 a2 a3 a4 => wpAny_pure (hQ h' a1 a2 a3 a4)) (F.args_zip_next_1 _))))
theorem zpy_end {z TI TO : Addr} {p : Zp} {ps : List Zp} {Q : Option Value → Shared → Prop} (hh : A.handled = none) (D : ZApart z TI TO (p :: ps)) (st : ZAt s.heap z TI TO (p :: ps) k) (hof : p.Of s.heap xs) (hx : xs[k]? = none)
    (hQ : ∀ h', ZKeep z TO (p :: ps) s.heap h' → Q none { s with heap := h' }) : wpAny (model prog w) A (pyNext (.ref z)) Q E s := by
  obtain ⟨f0, f1, hf, hz⟩ := st.z
  have hT : s.TypeIs (.ref z) "zip" := ⟨_, hz, rfl⟩
  unfold pyNext
  refine wpAny_bind (wpAny_attempt (wpAny_callSpecial?_slot (name := Str.ofString "__next__") hT F.slot_zip_next
    (wpAny_call_entry F.slot_zip_next hT F.entry_zip_next (znext_end hh D st hof hx fun h' e hk he => ?_) (F.args_zip_next_1 _))))
  obtain ⟨o, ho, hc⟩ := he
  refine wpAny_bind (wpAny_isInstance (T := "StopIteration") (b := true) ⟨o, ho, hc⟩ isSubtype_stop ?_)
  exact wpAny_pure (hQ _ hk)
theorem zpy_iter {z TI TO : Addr} {ps : List Zp} {Q : Value → Shared → Prop} (st : ZAt s.heap z TI TO ps k) (h : Q (.ref z) s) : wpAny (model prog w) A (pyIter (.ref z)) Q E s := by
  obtain ⟨f0, f1, hf, hz⟩ := st.z
  have hT : s.TypeIs (.ref z) "zip" := ⟨_, hz, rfl⟩
  refine wpAny_pyIter_slot hT F.slot_zip_iter (wpAny_call_entry F.slot_zip_iter hT F.entry_zip_iter ?_ (F.args_zip_iter_1 _))
  show wpAny _ _ (ret (.ref z)) _ _ s
  exact wpAny_pure ⟨_, rfl, "zip", _, hT, F.slot_zip_next.lookup, h⟩
/-! ### zip(..) is made -/
def zps : Nat → List (Bool × Addr) → List Zp
  | _, [] => []
  | n, q :: qs => ⟨q.1, n, q.2⟩ :: zps (n + 1) qs
theorem zps_len : ∀ (n : Nat) (qs : List (Bool × Addr)), (zps n qs).length = qs.length
  | _, [] => rfl
  | n, q :: qs => by rw [zps, List.length_cons, List.length_cons, zps_len]
theorem zps_it : ∀ {n : Nat} {qs : List (Bool × Addr)} {p : Zp}, p ∈ zps n qs → n ≤ p.it ∧ p.it < n + qs.length ∧ (p.tup, p.src) ∈ qs
  | _, [], _, h => nomatch h
  | n, q :: qs, p, h => by
    rcases List.mem_cons.mp h with rfl | h
    · exact ⟨Nat.le_refl _, Nat.lt_add_of_pos_right (Nat.succ_pos _), List.mem_cons_self⟩
    · obtain ⟨a, b, c⟩ := zps_it h
      exact ⟨Nat.le_of_succ_le a, Nat.lt_of_lt_of_le b (Nat.le_of_eq (by rw [List.length_cons]; omega)), List.mem_cons_of_mem _ c⟩
theorem zps_nd : ∀ (n : Nat) (qs : List (Bool × Addr)), ((zps n qs).map (·.it)).Nodup
  | _, [] => List.nodup_nil
  | n, q :: qs => by
    rw [zps, List.map_cons, List.nodup_cons]
    refine ⟨fun h => ?_, zps_nd _ _⟩
    obtain ⟨p, hp, e⟩ := List.mem_map.mp h
    have := (zps_it hp).1
    have e : p.it = n := e
    rw [e] at this
    exact Nat.not_succ_le_self _ this
theorem zps_app : ∀ (n : Nat) (qs rs : List (Bool × Addr)), zps n (qs ++ rs) = zps n qs ++ zps (n + qs.length) rs
  | _, [], _ => rfl
  | n, q :: qs, rs => by
    rw [List.cons_append, zps, zps, zps_app, List.length_cons, List.cons_append]
    have e : n + 1 + qs.length = n + (qs.length + 1) := by omega
    rw [e]
def ZSrc (h : Heap) (q : Bool × Addr) : Prop := ∃ xs : List Value, (⟨q.1, 0, q.2⟩ : Zp).Of h xs
theorem iter_all {qs : List (Bool × Addr)} {Q : List Value → Shared → Prop} (hq : ∀ q ∈ qs, ZSrc s.heap q)
    (hQ : ∀ h', (∀ p ∈ zps s.heap.objs.size qs, p.At h' 0) → h'.objs.size = s.heap.objs.size + qs.length → (∀ c o, s.heap.get? c = some o → h'.get? c = some o) → Q ((zps s.heap.objs.size qs).map fun p => .ref p.it) { s with heap := h' }) :
    wpAny (model prog w) A (Builtin.SmallTypes.iterAll (qs.map fun q => .ref q.2)) Q E s := by
  unfold Builtin.SmallTypes.iterAll
  refine wpAny_bind (wpAny_mono (wpAny_forIn_list _ (fun (l : List Value) (b : Array Value) s' => ∃ dn rs h', qs = dn ++ rs ∧ b = ((zps s.heap.objs.size dn).map fun p => Value.ref p.it).toArray ∧ l = rs.map (fun q => Value.ref q.2) ∧ s' = { s with heap := h' } ∧
      (∀ p ∈ zps s.heap.objs.size dn, p.At h' 0) ∧ h'.objs.size = s.heap.objs.size + dn.length ∧ (∀ c o, s.heap.get? c = some o → h'.get? c = some o))
    (fun b s' => ∃ h', b = ((zps s.heap.objs.size qs).map fun p => Value.ref p.it).toArray ∧ s' = { s with heap := h' } ∧ (∀ p ∈ zps s.heap.objs.size qs, p.At h' 0) ∧ h'.objs.size = s.heap.objs.size + qs.length ∧ (∀ c o, s.heap.get? c = some o → h'.get? c = some o)) ?turn ?fin _ _ ?start) (fun b s' hq => ?after) fun _ _ x => x)
  case start => exact ⟨[], qs, s.heap, rfl, rfl, rfl, rfl, fun p hp => (nomatch hp), rfl, fun _ _ e => e⟩
  case after =>
    obtain ⟨h', rfl, rfl, a, b, c⟩ := hq
    exact wpAny_pure (hQ h' a b c)
  case fin =>
    rintro b s' ⟨dn, rs, h', e1, e2, e3, e4, a1, a2, a3⟩
    cases rs with
    | cons q rs => cases e3
    | nil =>
      rw [List.append_nil] at e1
      subst e1
      exact ⟨h', e2, e4, a1, a2, a3⟩
  case turn =>
    rintro x rest b s' ⟨dn, rs, h', e1, e2, e3, e4, a1, a2, a3⟩
    subst e2 e4
    cases rs with
    | nil => cases e3
    | cons q rs =>
      rw [List.map_cons] at e3
      cases e3
      obtain ⟨xs, hof⟩ := hq q (by rw [e1]; simp)
      have of' : (⟨q.1, 0, q.2⟩ : Zp).Of h' xs := hof.to fun o e => a3 _ o e
      have ez : zps s.heap.objs.size (dn ++ [q]) = zps s.heap.objs.size dn ++ [⟨q.1, h'.objs.size, q.2⟩] := by
        rw [zps_app, a2]
        rfl
      have tail : ∀ o : Obj, ((⟨q.1, h'.objs.size, q.2⟩ : Zp).At (h'.push o) 0) → ∃ dn' rs' h'', qs = dn' ++ rs' ∧ (((zps s.heap.objs.size dn).map fun p => Value.ref p.it).toArray.push (.ref h'.objs.size)) = ((zps s.heap.objs.size dn').map fun p => Value.ref p.it).toArray ∧
          rs.map (fun q => Value.ref q.2) = rs'.map (fun q => Value.ref q.2) ∧ ({ s with heap := h'.push o } : Shared) = { s with heap := h'' } ∧ (∀ p ∈ zps s.heap.objs.size dn', p.At h'' 0) ∧ h''.objs.size = s.heap.objs.size + dn'.length ∧ (∀ c o, s.heap.get? c = some o → h''.get? c = some o) := fun o ho => by
        refine ⟨dn ++ [q], rs, h'.push o, by rw [e1]; simp, by rw [ez]; simp, rfl, rfl, fun p hp => ?_, by rw [Heap.size_push, a2, List.length_append]; rfl, fun c o e => Heap.get?_push_of_some _ (a3 c o e)⟩
        rw [ez] at hp
        rcases List.mem_append.mp hp with z | z
        · exact (a1 p z).to fun o e => Heap.get?_push_of_some _ e
        · rw [List.mem_singleton.mp z]
          exact ho
      refine wpAny_bind (wpAny_holding ?_)
      obtain ⟨b, a⟩ := q
      unfold Zp.Of at of'
      cases b with
      | true =>
        rw [if_pos rfl] at of'
        refine wpAny_pyIter_tuple (s := { s with heap := h' }) of' (wpAny_pure (tail _ ?_))
        unfold Zp.At
        rw [if_pos rfl]
        exact ⟨_, Heap.get?_push_size _ rfl, rfl, rfl⟩
      | false =>
        rw [if_neg Bool.false_ne_true] at of'
        refine wpAny_pyIter_list (s := { s with heap := h' }) of' (wpAny_pure (tail _ ?_))
        unfold Zp.At
        rw [if_neg Bool.false_ne_true]
        exact ⟨_, Heap.get?_push_size _ rfl, rfl, rfl⟩
theorem zip_args : ∀ {us : List Value}, us.length ≤ 12 → us ≠ [] → checkTypeCall "zip" ⟨us, []⟩ = pure () ∧ checkBuiltinCall "zip.__new__" ⟨.type "zip" :: us, []⟩ = pure ()
  | [], _, h => absurd rfl h
  | [_], _, _ => ⟨by kernel_rfl, by kernel_rfl⟩
  | [_, _], _, _ => ⟨by kernel_rfl, by kernel_rfl⟩
  | [_, _, _], _, _ => ⟨by kernel_rfl, by kernel_rfl⟩
  | [_, _, _, _], _, _ => ⟨by kernel_rfl, by kernel_rfl⟩
  | [_, _, _, _, _], _, _ => ⟨by kernel_rfl, by kernel_rfl⟩
  | [_, _, _, _, _, _], _, _ => ⟨by kernel_rfl, by kernel_rfl⟩
  | [_, _, _, _, _, _, _], _, _ => ⟨by kernel_rfl, by kernel_rfl⟩
  | [_, _, _, _, _, _, _, _], _, _ => ⟨by kernel_rfl, by kernel_rfl⟩
  | [_, _, _, _, _, _, _, _, _], _, _ => ⟨by kernel_rfl, by kernel_rfl⟩
  | [_, _, _, _, _, _, _, _, _, _], _, _ => ⟨by kernel_rfl, by kernel_rfl⟩
  | [_, _, _, _, _, _, _, _, _, _, _], _, _ => ⟨by kernel_rfl, by kernel_rfl⟩
  | [_, _, _, _, _, _, _, _, _, _, _, _], _, _ => ⟨by kernel_rfl, by kernel_rfl⟩
  | _ :: _ :: _ :: _ :: _ :: _ :: _ :: _ :: _ :: _ :: _ :: _ :: _ :: _, h, _ => by simp at h
theorem init_args : ∀ {us : List Value} (obj : Value), us.length ≤ 12 → argsOk "object.__init__" ⟨obj :: us, []⟩ := fun {us} obj h => by
  unfold argsOk
  rw [signature?_of (id := "object.__init__") (n := ['_', '_', 't', 'i', 'n', 'i', '_', '_']) (o := ['t', 'c', 'e', 'j', 'b', 'o']) (by kernel_rfl) F.owner_object]
  kernel_rfl
theorem meets_zip (qs : List (Bool × Addr)) : Meets (Builtin.«zip.__new__» ⟨.type "zip" :: qs.map fun q => .ref q.2, []⟩) (fun _ R s => (∀ q ∈ qs, ZSrc s.heap q) ∧ qs.length ≤ 1000 ∧
    ∀ h', (∀ p ∈ zps s.heap.objs.size qs, p.At h' 0) → ZTup h' (s.heap.objs.size + qs.length) ((zps s.heap.objs.size qs).map fun p => .ref p.it) → ZTup h' (s.heap.objs.size + qs.length + 1) ((zps s.heap.objs.size qs).map fun _ => .none) →
      ZObj h' (s.heap.objs.size + qs.length + 2) (s.heap.objs.size + qs.length) (s.heap.objs.size + qs.length + 1) .none false → (∀ c o, s.heap.get? c = some o → h'.get? c = some o) → R (.ok (.ret (.ref (s.heap.objs.size + qs.length + 2)))) { s with heap := h' }) :=
  .of_wp fun prog w A R s h => by
    obtain ⟨hp, g, d, tk, os⟩ := s
    obtain ⟨h1, h2, h3⟩ := h
    have hsub := sub_zip
    unfold Builtin.«zip.__new__»
    wp_walk using (iter_all h1)
    intro h' a1 a2 a3
    have zl : (zps hp.objs.size qs).length = qs.length := zps_len _ _
    refine wpAny_bind (wpAny_newTuple ?_ (by rw [List.length_map, zl, sizeLine_eq]; omega))
    refine wpAny_bind (wpAny_newTuple ?_ (by rw [List.length_map, List.length_map, zl, sizeLine_eq]; omega))
    have z1 : (h'.push { cls := .type "tuple", data := .seq ((zps hp.objs.size qs).map fun p => Value.ref p.it).toArray }).objs.size = hp.objs.size + qs.length + 1 := by rw [Heap.size_push, a2]
    have z2 : ((h'.push { cls := .type "tuple", data := .seq ((zps hp.objs.size qs).map fun p => Value.ref p.it).toArray }).push { cls := .type "tuple", data := .seq ((zps hp.objs.size qs).map fun _ => Value.none).toArray }).objs.size = hp.objs.size + qs.length + 2 := by rw [Heap.size_push, z1]
    have em : ((zps hp.objs.size qs).map fun p => Value.ref p.it).map (fun _ => Value.none) = (zps hp.objs.size qs).map fun _ => Value.none := by
      rw [List.map_map]
      rfl
    unfold Builtin.SmallTypes.newRecord
    refine wpAny_bind (wpAny_newObj_type (wpAny_pure ⟨_, rfl, ?_⟩) (by show 5 ≤ sizeLine + 2; rw [sizeLine_eq]; decide))
    simp only [em]
    rw [z1, z2, a2]
    refine h3 _ (fun p hp' => (a1 p hp').to fun o e => Heap.get?_push_of_some _ (Heap.get?_push_of_some _ (Heap.get?_push_of_some _ e))) ?_ ?_ ?_ fun c o e => Heap.get?_push_of_some _ (Heap.get?_push_of_some _ (Heap.get?_push_of_some _ (a3 c o e)))
    · have := Heap.get?_push_size (h := h') (o := { cls := .type "tuple", data := .seq ((zps hp.objs.size qs).map fun p => Value.ref p.it).toArray }) rfl
      rw [a2] at this
      exact Heap.get?_push_of_some _ (Heap.get?_push_of_some _ this)
    · have := Heap.get?_push_size (h := h'.push { cls := .type "tuple", data := .seq ((zps hp.objs.size qs).map fun p => Value.ref p.it).toArray }) (o := { cls := .type "tuple", data := .seq ((zps hp.objs.size qs).map fun _ => Value.none).toArray }) rfl
      rw [z1] at this
      exact Heap.get?_push_of_some _ this
    · rw [← z2]
      exact Heap.get?_push_size _ rfl
end
end Fd

set_option Elab.async false
set_option linter.all false
set_option maxRecDepth 100000
set_option maxHeartbeats 4000000
/-! Fd, part Y: zip(*rows) as a walk, in loops and comprehensions. -/
namespace Fd
open PySem PySem.Spec PyProof.Rows L2
section
variable {prog : Program} {w : World} {A : Around} {E : Value → Shared → Prop} {s : Shared}
theorem call_zips {qs : List (Bool × Addr)} {Q : Value → Shared → Prop} (ne : qs ≠ []) (h12 : qs.length ≤ 12) (hq : ∀ q ∈ qs, ZSrc s.heap q)
    (h : ∀ h', ZAt h' (s.heap.objs.size + qs.length + 2) (s.heap.objs.size + qs.length) (s.heap.objs.size + qs.length + 1) (zps s.heap.objs.size qs) 0 → (∀ c o, s.heap.get? c = some o → h'.get? c = some o) → Q (.ref (s.heap.objs.size + qs.length + 2)) { s with heap := h' }) :
    wpAny (model prog w) A (call (.type "zip") (qs.map fun q => .ref q.2)) Q E s := by
  have hl : (qs.map fun q => Value.ref q.2).length ≤ 12 := by rw [List.length_map]; exact h12
  have hn : (qs.map fun q => Value.ref q.2) ≠ [] := fun z => ne (List.map_eq_nil_iff.mp z)
  refine callType_new F.called_zip (by decide) (zip_args hl hn).1 (zip_args hl hn).2 (fun obj => init_args obj hl) F.entry_zip_new (meets_zip qs) ⟨hq, by omega, fun h' a b c d e => ⟨⟨_, d, rfl⟩, ?_⟩⟩
  exact h h' ⟨⟨_, _, .inl rfl, d⟩, b, ⟨_, by rw [List.length_map], c⟩, a⟩ e
theorem zps_apart {n : Nat} {qs : List (Bool × Addr)} (hs : ∀ q ∈ qs, q.2 < n) : ZApart (n + qs.length + 2) (n + qs.length) (n + qs.length + 1) (zps n qs) where
  TIz := Nat.ne_of_lt (Nat.lt_add_of_pos_right (by decide))
  TOz := Nat.ne_of_lt (Nat.lt_succ_self _)
  TITO := Nat.ne_of_lt (Nat.lt_succ_self _)
  iz := fun p hp => Nat.ne_of_lt (Nat.lt_of_lt_of_le (zps_it hp).2.1 (Nat.le_add_right _ _))
  iTI := fun p hp => Nat.ne_of_lt (zps_it hp).2.1
  iTO := fun p hp => Nat.ne_of_lt (Nat.lt_of_lt_of_le (zps_it hp).2.1 (Nat.le_add_right _ _))
  nd := zps_nd _ _
  sz := fun p hp => Nat.ne_of_lt (Nat.lt_of_lt_of_le (hs _ (zps_it hp).2.2) (by show n ≤ n + qs.length + 2; omega))
  sTO := fun p hp => Nat.ne_of_lt (Nat.lt_of_lt_of_le (hs _ (zps_it hp).2.2) (by show n ≤ n + qs.length + 1; omega))
  si := fun p hp q hq => Nat.ne_of_lt (Nat.lt_of_lt_of_le (hs _ (zps_it hp).2.2) (zps_it hq).1)
end
theorem zps_get : ∀ (n : Nat) (qs : List (Bool × Addr)) (j : Nat), (zps n qs)[j]? = (qs[j]?).map fun q => ⟨q.1, n + j, q.2⟩
  | _, [], _ => rfl
  | n, q :: qs, 0 => rfl
  | n, q :: qs, j + 1 => by
    rw [zps, List.getElem?_cons_succ, List.getElem?_cons_succ, zps_get]
    have e : n + 1 + j = n + (j + 1) := by omega
    rw [e]
/-- a row: a tuple's or a list's items -/
def SqX (K : PySem.W.Frag) (H : Hp) (q : Bool × Addr) (xs : List V) : Prop := if q.1 = true then SqT K H q.2 xs else SqL K H q.2 xs
def ItZ (K : PySem.W.Frag) (qs : List (Bool × Addr)) : It :=
  ⟨fun i H => ∀ q ∈ qs, ∃ xs x, SqX K H q xs ∧ xs[i]? = some x,
    fun i H v H' => ∃ T vs, v = .ref T ∧ H T = none ∧ H' = upd H T (.tup vs) ∧ vs.length = qs.length ∧ ∀ (j : Nat) (q : Bool × Addr) (x : V), qs[j]? = some q → vs[j]? = some x → ∀ xs, SqX K H q xs → xs[i]? = some x,
    fun i H => ∃ q rs, qs = q :: rs ∧ ∃ xs, SqX K H q xs ∧ xs.length ≤ i⟩
theorem vals_map {α : Type} {g : α → V} {f : α → Value} : ∀ {ps : List α}, (∀ p ∈ ps, RelV (g p) (f p)) → Vals (ps.map g) (ps.map f)
  | [], _ => .nil
  | p :: ps, h => .cons (h p List.mem_cons_self) (vals_map fun q hq => h q (List.mem_cons_of_mem _ hq))
theorem sqx_of {X : Cx} {pins : List (Addr × Obj)} {σ : L2.St} {H : Hp} {s : Shared} {p : Zp} {xs : List V} (I : Inv X pins σ H s) (h : SqX X.K H (p.tup, p.src) xs) : ∃ its : List Value, Vals xs its ∧ p.Of s.heap its := by
  unfold SqX at h
  unfold Zp.Of
  by_cases q : p.tup = true
  · rw [if_pos q] at h
    obtain ⟨its, rv, pp, _⟩ := I.tuple h
    refine ⟨its, rv, ?_⟩
    rw [if_pos q]
    exact pp
  · rw [if_neg q] at h
    obtain ⟨its, rv, pp, _⟩ := I.list h
    refine ⟨its, rv, ?_⟩
    rw [if_neg q]
    exact pp.isList
theorem sqx_inj {X : Cx} {pins : List (Addr × Obj)} {σ : L2.St} {H : Hp} {s : Shared} {q : Bool × Addr} {xs ys : List V} (I : Inv X pins σ H s) (h : SqX X.K H q xs) (h' : SqX X.K H q ys) : xs = ys := by
  unfold SqX at h h'
  split at h
  · rename_i z
    rw [if_pos z] at h'
    exact I.tuple_inj h h'
  · rename_i z
    rw [if_neg z] at h'
    exact I.list_inj h h'
theorem turn_zs {P : Program} {w : World} {K : PySem.W.Frag} {x : Str} {xp : Pos} {z TI TO : Addr} {n : Nat} {qs : List (Bool × Addr)} (D : ZApart z TI TO (zps n qs)) (ne : qs ≠ []) (hl : qs.length ≤ 12) :
    Turn P w K (.Name x xp) (ItZ K qs) (z :: TI :: TO :: (zps n qs).map (·.it)) z (fun i h => ZAt h z TI TO (zps n qs) i) where
  mem := by simp
  obj := fun i h st c hc => by
    rcases List.mem_cons.mp hc with e | hc
    · obtain ⟨f0, f1, _, hz⟩ := st.z
      rw [e]; exact ⟨_, hz, fun v q => nomatch q⟩
    rcases List.mem_cons.mp hc with e | hc
    · rw [e]; exact ⟨_, st.ti, fun v q => nomatch q⟩
    rcases List.mem_cons.mp hc with e | hc
    · obtain ⟨vs, _, ho⟩ := st.to
      rw [e]; exact ⟨_, ho, fun v q => nomatch q⟩
    obtain ⟨p, hp, e⟩ := List.mem_map.mp hc
    obtain ⟨_, _, q⟩ := (st.its p hp).some
    rw [← e]
    rcases q with q | q
    · exact ⟨_, q, fun v q => nomatch q⟩
    · exact q
  keep := fun i h h' st k => by
    obtain ⟨f0, f1, hf, hz⟩ := st.z
    obtain ⟨vs, hv, ho⟩ := st.to
    exact ⟨⟨f0, f1, hf, k z (by simp) _ hz⟩, k TI (by simp) _ st.ti, ⟨vs, hv, k TO (by simp) _ ho⟩, fun p hp => (st.its p hp).to fun o q => k p.it (by simp only [List.mem_cons]; exact .inr (.inr (.inr (List.mem_map.mpr ⟨p, hp, rfl⟩)))) o q⟩
  item := by
    intro X hP hw hK hc i pins s σ H E I hf st hg
    subst hP hw hK
    have ch : ∀ p : Zp, ∃ r : Value × V, p ∈ zps n qs → ∃ (its : List Value) (xs : List V), p.Of s.heap its ∧ its[i]? = some r.1 ∧ SqX X.K H (p.tup, p.src) xs ∧ xs[i]? = some r.2 ∧ RelV r.2 r.1 := fun p => by
      by_cases hp : p ∈ zps n qs
      · obtain ⟨xs, x, hq, hx⟩ := hg _ (zps_it hp).2.2
        obtain ⟨its, rv, ho⟩ := sqx_of (p := p) I hq
        obtain ⟨u, hu, ru⟩ := rv.get hx
        exact ⟨(u, x), fun _ => ⟨its, xs, ho, hu, hq, hx, ru⟩⟩
      · exact ⟨(.none, .non), fun h => absurd h hp⟩
    obtain ⟨g, hgs⟩ := Classical.skolem.mp ch
    have lenz : (zps n qs).length = qs.length := zps_len _ _
    refine zpy_item (f := fun p => (g p).1) D (fun z => ne (List.length_eq_zero_iff.mp (by rw [← lenz, z]; rfl))) (by omega) st (fun p hp => by
      obtain ⟨its, xs, h1, h2, _⟩ := hgs p hp
      exact ⟨its, h1, h2⟩) fun h' st' hT hsz hk => ?_
    refine ⟨_, rfl, wpAny_pure ?_⟩
    have rv : Vals ((zps n qs).map fun p => (g p).2) ((zps n qs).map fun p => (g p).1) := vals_map fun p hp => by
      obtain ⟨_, _, _, _, _, _, r⟩ := hgs p hp
      exact r
    have new : ObjOk X.prog X.w (upd H s.heap.objs.size (.tup ((zps n qs).map fun p => (g p).2))) h' s.heap.objs.size (.tup ((zps n qs).map fun p => (g p).2)) :=
      ⟨by show List.length _ ≤ sizeLine; rw [List.length_map, sizeLine_eq]; omega, _, rv, ⟨_, hT, rfl, _, rfl⟩⟩
    have I1 : Inv X pins σ (upd H s.heap.objs.size (.tup ((zps n qs).map fun p => (g p).2))) { s with heap := h' } :=
      I.turnedNew (t' := s.toks) (ch := z :: TI :: TO :: (zps n qs).map (·.it)) (fun c o hb q => hk c o (fun e => hb (by simp [e])) (fun e => hb (by simp [e])) (fun p hp e => hb (by rw [e]; simp only [List.mem_cons]; exact .inr (.inr (.inr (List.mem_map.mpr ⟨p, hp, rfl⟩))))) q) hf (Nat.le_refl _) new
    refine ⟨.ref s.heap.objs.size, _, I1, rfl, ⟨_, _, rfl, I.hok.fresh (Nat.le_refl _), rfl, by rw [List.length_map, lenz], fun j q x hj hv xs hxs => ?_⟩, st', fun c hcm => ?_⟩
    · have ep := zps_get n qs j
      rw [hj] at ep
      rw [List.getElem?_map, ep] at hv
      cases hv
      have hp : (⟨q.1, n + j, q.2⟩ : Zp) ∈ zps n qs := List.mem_of_getElem? ep
      obtain ⟨_, ys, _, _, h1, h2, _⟩ := hgs _ hp
      rw [sqx_inj I hxs h1]
      exact h2
    · have hn := (hf c hcm).1
      have hlt : c < s.heap.objs.size := by
        rcases List.mem_cons.mp hcm with e | hc
        · obtain ⟨f0, f1, _, hz⟩ := st.z
          rw [e]; exact Heap.lt_size hz
        rcases List.mem_cons.mp hc with e | hc
        · rw [e]; exact Heap.lt_size st.ti
        rcases List.mem_cons.mp hc with e | hc
        · obtain ⟨vs, _, ho⟩ := st.to
          rw [e]; exact Heap.lt_size ho
        obtain ⟨p, hp, e⟩ := List.mem_map.mp hc
        obtain ⟨_, _, q⟩ := (st.its p hp).some
        rw [← e]
        rcases q with q | ⟨o, q, _⟩
        · exact Heap.lt_size q
        · exact Heap.lt_size q
      rw [upd_ne (Nat.ne_of_lt hlt)]
      exact hn
  done := by
    intro X hP hw hK hc i pins s σ H E I hf st hg
    subst hP hw hK
    obtain ⟨q, rs, eq, xs, hq, hx⟩ := hg
    subst eq
    obtain ⟨its, rv, ho⟩ := sqx_of (p := ⟨q.1, n, q.2⟩) I hq
    have l1 := rv.length
    exact zpy_end (I.ok.hd hc) D st ho (List.getElem?_eq_none (by omega)) fun h' hk => ⟨rfl, I.turnedL (t' := s.toks) (ch := z :: TI :: TO :: (zps n (q :: rs)).map (·.it)) (fun c o hb q =>
      hk c o (fun e => hb (by simp [e])) (fun e => hb (by simp [e])) (fun p hp e => hb (by rw [e]; simp only [List.mem_cons]; exact .inr (.inr (.inr (List.mem_map.mpr ⟨p, hp, rfl⟩))))) q) hf⟩
  self := fun A i s Q E st h => zpy_iter st h
def iZs (K : PySem.W.Frag) (te : TE) : TI := fun σ H R => te σ H fun y H1 => ∃ a qs, y = .ref a ∧ (SqT K H1 a (qs.map fun q => V.ref q.2) ∨ SqL K H1 a (qs.map fun q => V.ref q.2)) ∧ qs ≠ [] ∧ qs.length ≤ 12 ∧ (∀ q ∈ qs, ∃ xs, SqX K H1 q xs) ∧ R (ItZ K qs) H1
theorem vals_refs' : ∀ {qs : List (Bool × Addr)} {us : List Value}, Vals (qs.map fun q => V.ref q.2) us → us = qs.map fun q => Value.ref q.2
  | [], _, .nil => rfl
  | q :: qs, _, .cons r t => by
    cases r
    rw [vals_refs' t]
    rfl
theorem pi_zs {X : Cx} {e : Expr} {te : TE} {p sp pos xp : Pos} {x : Str} (hg : Gl X "zip") (hm : X.mg "zip" = none) (he : PE X e te) (hst : starEach [.Starred e sp] X.env = [(true, eval e X.env)] := by rfl) :
    PI X (.Name x xp) (.Call (.Name "zip" p) [.Starred e sp] [] pos) (iZs X.K te) := by
  refine ⟨fun pins s σ H R I h => Call_ (ld_blt I hg hm PyProof.Rows.boot_zip ?_)⟩
  rw [hst]
  refine PySem.W.ks_call (P := fun _ => True) rfl (fun _ _ => ⟨.machine, .inr (.inl rfl), fun A Q E s k q => wpAny_pure q⟩) (PySem.W.ks_lone (thn (he.run pins s σ H _ I h) fun v s1 ⟨y, H1, I1, ry, a, qs, ey, hs, ne, h12, hq, q⟩ => ?_))
  subst ey
  obtain rfl : v = Value.ref a := ry
  refine StX.star_any I1 (by rcases hs with z | z; exact .inl z; exact .inr z) fun us s2 I2 rv => ⟨trivial, ?_⟩
  obtain rfl := vals_refs' rv
  have hsrc : ∀ q ∈ qs, ZSrc s2.heap q := fun q hm => by
    obtain ⟨xs, hx⟩ := hq q hm
    obtain ⟨its, _, ho⟩ := sqx_of (p := ⟨q.1, 0, q.2⟩) I2 hx
    exact ⟨its, ho⟩
  have hlt : ∀ q ∈ qs, q.2 < s2.heap.objs.size := fun q hm => by
    obtain ⟨xs, hx⟩ := hsrc q hm
    unfold Zp.Of at hx
    split at hx
    · obtain ⟨o, ho, _⟩ := hx
      exact Heap.lt_size ho
    · obtain ⟨o, ho, _⟩ := hx
      exact Heap.lt_size ho
  show wpAny _ _ (call (.type "zip") (qs.map fun q => Value.ref q.2)) _ _ _
  refine call_zips ne h12 hsrc fun h' st hk => zpy_iter st ?_
  have I3 : Inv X pins σ H1 { s2 with heap := h' } := I2.kept (t' := s2.toks) hk
  refine ⟨_, _, _, _, H1, rfl, I3, turn_zs (zps_apart hlt) ne h12, st, fun c hcm => ?_, q⟩
  have hle : s2.heap.objs.size ≤ c := by
    rcases List.mem_cons.mp hcm with e | hc
    · rw [e]; exact Nat.le_trans (Nat.le_add_right _ _) (Nat.le_add_right _ _)
    rcases List.mem_cons.mp hc with e | hc
    · rw [e]; exact Nat.le_add_right _ _
    rcases List.mem_cons.mp hc with e | hc
    · rw [e]; exact Nat.le_trans (Nat.le_add_right _ _) (Nat.le_add_right _ _)
    obtain ⟨p, hp, e⟩ := List.mem_map.mp hc
    rw [← e]
    exact (zps_it hp).1
  exact I2.fpOk hle (I2.hok.fresh hle)
end Fd

set_option Elab.async false
set_option linter.all false
set_option maxRecDepth 100000
set_option maxHeartbeats 4000000
/-! Fd, part X: zip(*rows) over data. -/
namespace Fd
open PySem PySem.Spec PyProof.Rows L2
def rowOf : PyData → Option (List PyData)
  | .tuple xs => some xs
  | .list xs => some xs
  | _ => none
/-- rows of one length, one to twelve -/
structure RowsB (n : Nat) (ds : List PyData) (rss : List (List PyData)) : Prop where
  eq : ds.map rowOf = rss.map some
  ne : rss ≠ []
  le : rss.length ≤ 12
  len : ∀ r ∈ rss, r.length = n
def colsD (rss : List (List PyData)) (n : Nat) : List PyData := (List.range n).map fun j => .tuple (rss.map fun r => r.getD j .none)
section
variable {K : PySem.W.Frag} {G : Hp}
theorem row_one {v : V} {d : PyData} {rs : List PyData} (h : Dat K G v d) (e : rowOf d = some rs) : ∃ q : Bool × Addr, v = .ref q.2 ∧ ∃ ws, Dats K G ws rs ∧ ∀ H, Same G H → SqX K H q ws := by
  cases h with
  | lst s t =>
    cases e
    refine ⟨(false, _), rfl, _, t, fun H x => ?_⟩
    unfold SqX
    rw [if_neg Bool.false_ne_true]
    exact .inl (.inl (x _ _ s))
  | tup s t =>
    cases e
    refine ⟨(true, _), rfl, _, t, fun H x => ?_⟩
    unfold SqX
    rw [if_pos rfl]
    exact .inl (.inl (x _ _ s))
  | non => cases e
  | bl b => cases e
  | int i => cases e
  | str x => cases e
  | dct s t => cases e
theorem rows_split : ∀ {vs : List V} {ds : List PyData} {rss : List (List PyData)}, Dats K G vs ds → ds.map rowOf = rss.map some → ∃ qs : List (Bool × Addr), vs = qs.map (fun q => V.ref q.2) ∧ qs.length = rss.length ∧
    ∀ (j : Nat) (q : Bool × Addr) (rs : List PyData), qs[j]? = some q → rss[j]? = some rs → ∃ ws, Dats K G ws rs ∧ ∀ H, Same G H → SqX K H q ws
  | _, _, [], .nil, _ => ⟨[], rfl, rfl, fun j q rs h => by simp at h⟩
  | _, _, _ :: _, .nil, e => by simp at e
  | _, _, [], .cons _ _, e => by simp at e
  | _, _, rs :: rss, .cons h t, e => by
    rw [List.map_cons, List.map_cons] at e
    injection e with e1 e2
    obtain ⟨q, ev, ws, dw, sx⟩ := row_one h e1
    obtain ⟨qs, e3, e4, hh⟩ := rows_split t e2
    subst ev e3
    refine ⟨q :: qs, rfl, by rw [List.length_cons, List.length_cons, e4], fun j q' rs' h1 h2 => ?_⟩
    cases j with
    | zero =>
      cases h1
      cases h2
      exact ⟨ws, dw, sx⟩
    | succ j =>
      rw [List.getElem?_cons_succ] at h1 h2
      exact hh j q' rs' h1 h2
theorem dats_of : ∀ {vs : List V} {ds : List PyData}, vs.length = ds.length → (∀ (j : Nat) (v : V) (d : PyData), vs[j]? = some v → ds[j]? = some d → Dat K G v d) → Dats K G vs ds
  | [], [], _, _ => .nil
  | v :: vs, d :: ds, hl, h => .cons (h 0 v d rfl rfl) (dats_of (by simpa using hl) fun j v' d' h1 h2 => h (j + 1) v' d' (by rw [List.getElem?_cons_succ]; exact h1) (by rw [List.getElem?_cons_succ]; exact h2))
  | [], _ :: _, hl, _ => by simp at hl
  | _ :: _, [], hl, _ => by simp at hl
theorem wk_zs {vs : List V} {ds : List PyData} {n : Nat} {rss : List (List PyData)} {qs : List (Bool × Addr)} {C : Hp → Prop} (hc : ∀ H, C H → Same G H) (hr : RowsB n ds rss) (hl : qs.length = rss.length)
    (hh : ∀ (j : Nat) (q : Bool × Addr) (rs : List PyData), qs[j]? = some q → rss[j]? = some rs → ∃ ws, Dats K G ws rs ∧ ∀ H, Same G H → SqX K H q ws) : WkD K G (ItZ K qs) (colsD rss n) C := by
  have cl : (colsD rss n).length = n := by
    unfold colsD
    rw [List.length_map, List.length_range]
  have at_ : ∀ {j : Nat} {q : Bool × Addr}, qs[j]? = some q → ∃ rs, rss[j]? = some rs ∧ rs.length = n ∧ ∃ ws, ws.length = n ∧ Dats K G ws rs ∧ ∀ H, Same G H → SqX K H q ws := fun {j q} hj => by
    have hlt : j < qs.length := by
      rcases Nat.lt_or_ge j qs.length with z | z
      · exact z
      · rw [List.getElem?_eq_none z] at hj; cases hj
    have e : rss[j]? = some rss[j] := List.getElem?_eq_getElem (by omega)
    obtain ⟨ws, d, sx⟩ := hh j q _ hj e
    have hn := hr.len _ (List.mem_of_getElem? e)
    exact ⟨_, e, hn, ws, by rw [d.len]; exact hn, d, sx⟩
  refine ⟨fun i H x H' => (ItZ K qs).yld i H x H' ∧ C H, ?_, fun i H x H' dd _ y e => ?_⟩
  · rw [cl]
    refine ⟨fun i H hi c q hq => ?_, fun H c => ?_, fun i H x H' _ c y => ⟨y, c⟩⟩
    · obtain ⟨j, hj⟩ := List.getElem?_of_mem hq
      obtain ⟨rs, _, _, ws, hw, _, sx⟩ := at_ hj
      exact ⟨ws, ws[i]'(by omega), sx H (hc H c), List.getElem?_eq_getElem (by omega)⟩
    · cases hq : qs with
      | nil =>
        rw [hq] at hl
        exact absurd (List.length_eq_zero_iff.mp hl.symm) hr.ne
      | cons q qt =>
        obtain ⟨rs, _, _, ws, hw, _, sx⟩ := at_ (j := 0) (q := q) (by rw [hq]; rfl)
        exact ⟨q, qt, rfl, ws, sx H (hc H c), by omega⟩
  · obtain ⟨⟨T, ws, e1, e2, e3, e4, e5⟩, c⟩ := y
    unfold colsD at e
    rw [List.getElem?_map] at e
    cases hi : (List.range n)[i]? with
    | none => rw [hi] at e; cases e
    | some k =>
      rw [hi] at e
      cases e
      obtain ⟨hlt, hk⟩ := List.getElem?_eq_some_iff.mp hi
      rw [List.getElem_range] at hk
      subst hk
      rw [List.length_range] at hlt
      refine .inr ⟨T, ws, rss.map fun r => r.getD i .none, e2, e3, e1, rfl, dats_of (by rw [List.length_map, e4, hl]) fun j v d hv hd => ?_⟩
      have hj : j < qs.length := by
        rcases Nat.lt_or_ge j ws.length with z | z
        · omega
        · rw [List.getElem?_eq_none z] at hv; cases hv
      have eq : qs[j]? = some qs[j] := List.getElem?_eq_getElem hj
      obtain ⟨rs, hrs, hrl, us, hul, du, sx⟩ := at_ eq
      have hx := e5 j _ v eq hv us (sx H (hc H c))
      rw [List.getElem?_map, hrs] at hd
      cases hd
      obtain ⟨u, hu1, hu2⟩ := du.get (i := i) (d := rs.getD i .none) (by rw [List.getD_eq_getElem?_getD, List.getElem?_eq_getElem (by omega)]; rfl)
      rw [hx] at hu1
      cases hu1
      exact hu2
end
section
variable {X : Cx} {B : Bs} {K : PySem.W.Frag} {a : Expr} {m : M} {ml : ML} {pos p sp xp : Pos} {x : Str}
theorem xi_zs (ha : XL X B a ml fa) (hm : X.mg "zip" = none) (hg : Gl X "zip" := by rfl) (hst : starEach [.Starred a sp] X.env = [(true, eval a X.env)] := by rfl) :
    XI X B (.Name x xp) (.Call (.Name "zip" p) [.Starred a sp] [] pos) (fun e Q => ml e fun _ ds => ∃ n rss, RowsB n ds rss ∧ Q (colsD rss n)) fa :=
  ⟨fun e P P' hh q => ha.mono e _ _ (fun k ds ⟨n, rss, q1, q2⟩ => ⟨n, rss, q1, hh _ q2⟩) q, piW (pi_zs hg hm ha.pe hst) fun σ H R ⟨e, G, bq, r, hh⟩ => ha.go r hh fun k ds q v H1 G1 r1 x1 d1 => by
    obtain ⟨n, rss, q1, q2⟩ := q
    obtain ⟨a1, vs, e1, dd, w⟩ := d1.at r1.sub r1.gpot
    have sg : ∀ H', Ext B.pt H1 H' → Same G1 H' := fun H' x c o g => x c o (r1.sub c o g) fun hp => by rw [r1.gpot c hp] at g; cases g
    obtain ⟨qs, e2, e3, hq⟩ := rows_split dd q1.eq
    subst e1 e2
    refine ⟨a1, qs, rfl, ?_, ?_, by rw [e3]; exact q1.le, fun q hm => ?_, q2 _ H1 G1 r1 x1 (wk_zs (vs := []) (fun H' x => sg H' x) q1 e3 hq)⟩
    · rcases w with w | w
      · exact .inr (w H1 .refl)
      · exact .inl (w H1 .refl)
    · intro z
      rw [z] at e3
      exact q1.ne (List.length_eq_zero_iff.mp e3.symm)
    · obtain ⟨j, hj⟩ := List.getElem?_of_mem hm
      have hlt : j < qs.length := by
        rcases Nat.lt_or_ge j qs.length with z | z
        · exact z
        · rw [List.getElem?_eq_none z] at hj; cases hj
      obtain ⟨ws, _, sx⟩ := hq j q _ hj (List.getElem?_eq_getElem (by omega))
      exact ⟨ws, sx H1 r1.sub⟩⟩
theorem xf_zs (ha : XQ X B a ml fa) (hm : X.mg "zip" = none) (hg : Gl X "zip" := by rfl) (hst : starEach [.Starred a sp] X.env = [(true, eval a X.env)] := by rfl) :
    XF X B (.Name x xp) (.Call (.Name "zip" p) [.Starred a sp] [] pos) (fun e Q => ml e fun _ ds => ∃ n rss, RowsB n ds rss ∧ Q (colsD rss n)) fa :=
  ⟨fun e P P' hh q => ha.mono e _ _ (fun k ds ⟨n, rss, q1, q2⟩ => ⟨n, rss, q1, hh _ q2⟩) q, piW (pi_zs hg hm ha.pe hst) fun σ H R ⟨e, G, bq, r, hh⟩ => ha.go r hh fun k ds q v H1 G1 r1 x1 d1 => by
    obtain ⟨n, rss, q1, q2⟩ := q
    obtain ⟨a1, vs, e1, dd, w⟩ := d1.at
    obtain ⟨qs, e2, e3, hq⟩ := rows_split dd q1.eq
    subst e1 e2
    refine ⟨a1, qs, rfl, ?_, ?_, by rw [e3]; exact q1.le, fun q hm => ?_, q2 _ H1 G1 r1 x1 (wk_zs (vs := []) (fun H' x => x) q1 e3 hq)⟩
    · rcases w with w | w
      · exact .inr (w H1 r1.sub)
      · exact .inl (w H1 r1.sub)
    · intro z
      rw [z] at e3
      exact q1.ne (List.length_eq_zero_iff.mp e3.symm)
    · obtain ⟨j, hj⟩ := List.getElem?_of_mem hm
      have hlt : j < qs.length := by
        rcases Nat.lt_or_ge j qs.length with z | z
        · exact z
        · rw [List.getElem?_eq_none z] at hj; cases hj
      obtain ⟨ws, _, sx⟩ := hq j q _ hj (List.getElem?_eq_getElem (by omega))
      exact ⟨ws, sx H1 r1.sub⟩⟩
end
end Fd

set_option Elab.async false
set_option linter.all false
set_option maxRecDepth 100000
set_option maxHeartbeats 4000000
/-! Fd, part W: dicts whose keys are tuples of ints. -/
namespace Fd
open PySem PySem.Spec PyProof.Rows L2
abbrev Kvs := List (List Int × PyData)
def valT (kvs : Kvs) (k : List Int) : Option PyData := (kvs.find? fun p => decide (p.1 = k)).map (·.2)
def putT (kvs : Kvs) (k : List Int) (d : PyData) : Kvs := if kvs.any (fun p => decide (p.1 = k)) = true then kvs.map (fun p => if p.1 = k then (p.1, d) else p) else kvs ++ [(k, d)]
def keyI (k : List Int) : List Key := k.map Sum.inl
theorem keyI_inj {a b : List Int} (h : keyI a = keyI b) : a = b := by
  unfold keyI at h
  have := congrArg (List.map fun k : Key => match k with | .inl i => i | .inr _ => (0 : Int)) h
  rw [List.map_map, List.map_map] at this
  have e : (fun k : Key => match k with | .inl i => i | .inr _ => (0 : Int)) ∘ Sum.inl = id := rfl
  rw [e, List.map_id, List.map_id] at this
  exact this
theorem keyI_V (k : List Int) : (keyI k).map kV = k.map V.int := by
  unfold keyI
  rw [List.map_map]
  rfl
section
variable {K : PySem.W.Frag} {G : Hp}
theorem dicd_val : ∀ {ws : List (List Key × V)} {kvs : Kvs}, DicD K G ws kvs → ∀ k : List Int, match valT kvs k with
    | some d => ∃ v, valV ws (keyI k) = some v ∧ Dat K G v d
    | none => valV ws (keyI k) = none
  | [], [], _, k => rfl
  | [], _ :: _, h, _ => by have := h.1; simp at this
  | _ :: _, [], h, _ => by have := h.1; simp at this
  | (wk, v) :: ws, (kk, d) :: kvs, ⟨h1, h2⟩, k => by
    rw [List.map_cons, List.map_cons] at h1 h2
    injection h1 with e1 e2
    have e1 : wk = keyI kk := e1
    cases h2 with
    | cons hv ht =>
    have ih := dicd_val (ws := ws) (kvs := kvs) ⟨e2, ht⟩ k
    by_cases q : kk = k
    · subst q
      have ev : valT ((kk, d) :: kvs) kk = some d := by simp [valT]
      rw [ev]
      exact ⟨v, valV_pos (p := (wk, v)) e1, hv⟩
    · have ev : valT ((kk, d) :: kvs) k = valT kvs k := by simp [valT, q]
      have ew : valV ((wk, v) :: ws) (keyI k) = valV ws (keyI k) := valV_neg (p := (wk, v)) fun z => q (keyI_inj (e1.symm.trans z))
      rw [ev, ew]
      exact ih
theorem dicd_any : ∀ {ws : List (List Key × V)} {kvs : Kvs} (k : List Int), ws.map (·.1) = kvs.map (fun p => p.1.map Sum.inl) → (ws.any fun p => decide (p.1 = keyI k)) = kvs.any fun p => decide (p.1 = k)
  | [], [], _, _ => rfl
  | [], _ :: _, _, h => by simp at h
  | _ :: _, [], _, h => by simp at h
  | (wk, v) :: ws, (kk, d) :: kvs, k, h => by
    rw [List.map_cons, List.map_cons] at h
    injection h with e1 e2
    have e1 : wk = keyI kk := e1
    rw [List.any_cons, List.any_cons, dicd_any k e2]
    have : decide (wk = keyI k) = decide (kk = k) := by
      by_cases q : kk = k
      · rw [decide_eq_true q, decide_eq_true (by rw [e1, q])]
      · rw [decide_eq_false q, decide_eq_false fun z => q (keyI_inj (e1.symm.trans z))]
    rw [show decide ((wk, v).1 = keyI k) = decide (wk = keyI k) from rfl, this]
theorem dicd_repl : ∀ {ws : List (List Key × V)} {kvs : Kvs} (k : List Int) {v : V} {d : PyData}, Dat K G v d → DicD K G ws kvs → DicD K G (ws.map fun p => if p.1 = keyI k then (p.1, v) else p) (kvs.map fun p => if p.1 = k then (p.1, d) else p)
  | [], [], _, _, _, _, _ => ⟨rfl, .nil⟩
  | [], _ :: _, _, _, _, _, h => by have := h.1; simp at this
  | _ :: _, [], _, _, _, _, h => by have := h.1; simp at this
  | (wk, v0) :: ws, (kk, d0) :: kvs, k, v, d, hv, ⟨h1, h2⟩ => by
    rw [List.map_cons, List.map_cons] at h1 h2
    injection h1 with e1 e2
    have e1 : wk = keyI kk := e1
    cases h2 with
    | cons hv0 ht =>
    have ih := dicd_repl (ws := ws) (kvs := kvs) k hv ⟨e2, ht⟩
    rw [List.map_cons, List.map_cons]
    by_cases q : kk = k
    · rw [if_pos (show (wk, v0).1 = keyI k by rw [← q]; exact e1), if_pos (show (kk, d0).1 = k from q)]
      exact ⟨by rw [List.map_cons, List.map_cons, ih.1]; exact congrArg (· :: _) e1, .cons hv ih.2⟩
    · rw [if_neg (show ¬ (wk, v0).1 = keyI k from fun z => q (keyI_inj (e1.symm.trans z))), if_neg (show ¬ (kk, d0).1 = k from q)]
      exact ⟨by rw [List.map_cons, List.map_cons, ih.1]; exact congrArg (· :: _) e1, .cons hv0 ih.2⟩
theorem dicd_put {ws : List (List Key × V)} {kvs : Kvs} (k : List Int) {v : V} {d : PyData} (hv : Dat K G v d) (h : DicD K G ws kvs) : DicD K G (putK ws (keyI k) v) (putT kvs k d) := by
  have e := dicd_any (ws := ws) (kvs := kvs) k h.1
  unfold putK putT
  rw [e]
  split
  · exact dicd_repl k hv h
  · refine ⟨?_, ?_⟩
    · rw [List.map_append, List.map_append, h.1]
      rfl
    · rw [List.map_append, List.map_append]
      exact h.2.app (.one hv)
end
/-- a tuple of ints -/
def onTk (Q : List Int → Prop) : U → Prop
  | .d (.tuple ds) => onIs Q ds
  | _ => False
theorem onTk_out {Q : List Int → Prop} {u : U} (h : onTk Q u) : ∃ ns : List Int, u = .d (.tuple (ns.map .int)) ∧ Q ns := by
  unfold onTk at h
  split at h
  · obtain ⟨ns, e, q⟩ := onIs_out h
    exact ⟨ns, by rw [e], q⟩
  · exact h.elim
theorem onTk_mono {Q Q' : List Int → Prop} (hh : ∀ ns, Q ns → Q' ns) (u : U) (h : onTk Q u) : onTk Q' u := by
  obtain ⟨ns, rfl, q⟩ := onTk_out h
  exact onIs_mono hh _ (by exact h)
def onTd (Q : Kvs → Prop) : U → Prop
  | .tdic kvs => Q kvs
  | _ => False
theorem onTd_out {Q : Kvs → Prop} {u : U} (h : onTd Q u) : ∃ kvs, u = .tdic kvs ∧ Q kvs := by
  unfold onTd at h
  split at h
  · exact ⟨_, rfl, h⟩
  · exact h.elim
theorem onTd_mono {Q Q' : Kvs → Prop} (hh : ∀ ns, Q ns → Q' ns) (u : U) (h : onTd Q u) : onTd Q' u := by
  obtain ⟨ns, rfl, q⟩ := onTd_out h
  exact hh ns q
def onDic (o : Option (Option Sl)) (Q : Kvs → Prop) : Prop := match o with
  | some (some (.dic kvs)) => Q kvs
  | _ => False
theorem onDic_out {o : Option (Option Sl)} {Q : Kvs → Prop} (h : onDic o Q) : ∃ kvs, o = some (some (.dic kvs)) ∧ Q kvs := by
  unfold onDic at h
  split at h
  · exact ⟨_, rfl, h⟩
  · exact h.elim
theorem onDic_mk {o : Option (Option Sl)} {Q : Kvs → Prop} {kvs : Kvs} (e : o = some (some (.dic kvs))) (q : Q kvs) : onDic o Q := by
  rw [e]
  exact q
theorem onDic_mono {o : Option (Option Sl)} {Q Q' : Kvs → Prop} (hh : ∀ kvs, Q kvs → Q' kvs) (h : onDic o Q) : onDic o Q' := by
  obtain ⟨ds, e, q⟩ := onDic_out h
  exact onDic_mk e (hh ds q)
theorem onDic_c {kvs : Kvs} {Q : Kvs → Prop} : onDic (some (some (.dic kvs))) Q = Q kvs := rfl
theorem onTd_t {kvs : Kvs} {Q : Kvs → Prop} : onTd Q (.tdic kvs) = Q kvs := rfl
theorem onTk_t {ds : List PyData} {Q : List Int → Prop} : onTk Q (.d (.tuple ds)) = onIs Q ds := rfl
def mFreezeT (i : Nat) (m : MS) : MS := fun e k => onDic e[i]? fun kvs => m (e.set i (some (.val (.tdic kvs)))) k
section
variable {X : Cx} {B : Bs} {K : PySem.W.Frag} {a b x : Expr} {m ma mb mk md mv : M} {pos p apos cpos spos tpos : Pos} {n : Str}
theorem xss_freezeT (i : Nat) {sts : List Stmt} {m : MS} (h1 : XSs X B sts m f1) : XSs X B sts (mFreezeT i m) f1 :=
  ⟨fun e k k' h q => onDic_mono (fun kvs q => h1.mono _ _ _ h q) q, pssW h1.ps fun D σ H ⟨e, G, bq, r, q⟩ => by
    obtain ⟨ds, h2, q⟩ := onDic_out q
    obtain ⟨G', r', s⟩ := r.freezeT h2
    exact h1.go r' q (kof_le s (Nat.le_refl _) D)⟩
/-- {}, one's own -/
def mNewT (i : Nat) : MS := fun e k => k.nx (e.set i (some (.dic [])))
theorem xs_newT (i : Nat) {pos' : Pos} (hN : X.N.Nodup) (hi : X.N[i]? = some n := by rfl) (hx : Loc X.env.scope n := by first | exact .inl rfl | exact .inr rfl) (hs : swapsWith (.Dict [] [] p) (some (.Name n pos')) pos.line X.env = pure false := by rfl)
    (hf : X.fn n = true ∨ X.env.scope.names.lookup n = some .local := by first | exact .inl rfl | exact .inr rfl) : XS X B (.Assign [.Name n pos'] (.Dict [] [] p) pos) (mNewT i) cz :=
  ⟨fun e k k' h q => h.nx _ q, psW (ps_set hN hi hx pe_dnewT hs hf) fun D σ H ⟨e, G, bq, r, q⟩ l hl =>
    q _ _ G ((r.laid hl _).storeS rfl upd_same (.ofT ⟨rfl, .nil⟩) (r.gold hl) (r.old hl) (r.nopot hl) (rel_no r r hl) i) (Same.refl G)⟩
theorem ownDic {e : En} {σ : L2.St} {G H : Hp} (r : Rel K B bd e σ G H) {i : Nat} {kvs : Kvs} (h : e[i]? = some (some (Sl.dic kvs))) : ∃ q ws, σ[i]? = some (some (.ref q)) ∧ H q = some (.dT ws) ∧ DicD K G ws kvs := by
  obtain ⟨q, vs, h1, h2, h3, _⟩ := r.ownT i kvs h
  exact ⟨q, vs, h1, h2, h3⟩
theorem key_at {v : V} {G H : Hp} {ns : List Int} (s : Same G H) (d : Dat K G v (.tuple (ns.map .int))) : ∃ b, v = .ref b ∧ H b = some (.tup ((keyI ns).map kV)) := by
  cases d with
  | tup h t =>
    have ev := t.ints
    subst ev
    exact ⟨_, rfl, by rw [keyI_V]; exact s _ _ h⟩
theorem dicd_len {G : Hp} {ws : List (List Key × V)} {kvs : Kvs} (h : DicD K G ws kvs) : ws.length = kvs.length := by
  have := congrArg List.length h.1
  rw [List.length_map, List.length_map] at this
  exact this
theorem dicd_mono {G G' : Hp} {ws : List (List Key × V)} {kvs : Kvs} (s : Same G G') (h : DicD K G ws kvs) : DicD K G' ws kvs := ⟨h.1, h.2.mono s⟩
/-- found.get(k, x) of one's own dict -/
theorem xe_getT (j : Nat) (hu : X.A.units + 64 < cLine) (ha : XE X B a mk fa) (hb : XE X B b md fb) (m2 : M2 X (.Name n p) "get" apos a b cpos) (hN : X.N[j]? = some n := by rfl) (hv : Vis X.env.scope n := by first | exact Or.inl rfl | exact Or.inr (Or.inl rfl) | exact Or.inr (Or.inr rfl))
    (hd : (n == ("__debug__" : Str)) = false := by decide) (hcd : (n == ("__classdict__" : Str)) = false := by decide) :
    XE X B (.Call (.Attribute (.Name n p) "get" apos) [a, b] [] cpos) (fun e Q => onDic e[j]? fun kvs => mk e (onTk fun ks => md e (onD fun d => Q (.d ((valT kvs ks).getD d))))) (sq fa fb) :=
  ⟨fun e P P' h q => onDic_mono (fun kvs q => ha.mono e _ _ (onTk_mono fun ks q => hb.mono e _ _ (onD_mono fun d q => h _ q) q) q) q, peW (pe_dget2 (by omega) (pe_var hN hv hd hcd) ha.pe hb.pe m2) fun σ H Q ⟨e, G, bq, r, hh⟩ => by
    obtain ⟨kvs, he, q⟩ := onDic_out hh
    obtain ⟨l, ws, h1, h2, h3⟩ := ownDic r he
    refine ⟨.ref l, h1, l, rfl, .inr ⟨ws, .inl h2⟩, ha.go r q fun u q v H1 G1 r1 x1 d1 => ?_⟩
    obtain ⟨ks, rfl, q5⟩ := onTk_out q
    refine hb.go r1 q5 fun u2 q6 v2 H2 G2 r2 x2 d2 => ?_
    obtain ⟨d, rfl, q⟩ := onD_out q6
    obtain ⟨l', ws', k1, k2, k3⟩ := ownDic r2 he
    rw [h1] at k1; cases k1
    obtain ⟨kb, rfl, hk⟩ := key_at r2.sub (Dat.mono x2.same d1)
    have dv := dicd_val k3 ks
    refine ⟨_, DGet.t k2 hk, ?_⟩
    cases z : valT kvs ks with
    | none =>
      rw [z] at dv q
      rw [dv]
      exact q _ _ G2 r2 (x1.trans x2) d2
    | some w =>
      rw [z] at dv q
      obtain ⟨v3, e3, d3⟩ := dv
      rw [e3]
      exact q _ _ G2 r2 (x1.trans x2) d3⟩
/-- found[k] = x of one's own dict -/
def mPutT (j : Nat) (mv mk : M) : MS := fun e k => mv e (onD fun d => onDic e[j]? fun kvs => mk e (onTk fun ks => Fits (kvs.length + 1) ∧ k.nx (e.set j (some (.dic (putT kvs ks d))))))
theorem xs_putT (j : Nat) (hu : X.A.units + 64 < cLine) (hx : XE X B x mv fx) (ha : XE X B a mk fa) (hN : X.N[j]? = some n := by rfl) (hv : Vis X.env.scope n := by first | exact Or.inl rfl | exact Or.inr (Or.inl rfl) | exact Or.inr (Or.inr rfl))
    (hs : swapsWith x (some (.Subscript (.Name n p) a tpos)) spos.line X.env = pure false := by rfl) (hd : (n == ("__debug__" : Str)) = false := by decide) (hcd : (n == ("__classdict__" : Str)) = false := by decide) :
    XS X B (.Assign [.Subscript (.Name n p) a tpos] x spos) (mPutT j mv mk) (sq fx fa) :=
  ⟨fun e k k' hh q => hx.mono e _ _ (onD_mono fun d q => onDic_mono (fun kvs q => ha.mono e _ _ (onTk_mono fun ks q => ⟨q.1, hh.nx _ q.2⟩) q) q) q, psW (ps_dput (by omega) (pe_var hN hv hd hcd) ha.pe hx.pe hs) fun D σ H ⟨e, G, bq, r, q⟩ => hx.go r q fun u q v H1 G1 r1 x1 d1 => by
    obtain ⟨d, rfl, q5⟩ := onD_out q
    obtain ⟨kvs, he, q6⟩ := onDic_out q5
    obtain ⟨l, ws, h1, h2, h3⟩ := ownDic r1 he
    refine ⟨.ref l, h1, ha.go r1 q6 fun u2 q7 v2 H2 G2 r2 x2 d2 => ?_⟩
    obtain ⟨ks, rfl, c, q8⟩ := onTk_out q7
    obtain ⟨l', ws', k1, k2, k3⟩ := ownDic r2 he
    rw [h1] at k1; cases k1
    obtain ⟨kb, rfl, hk⟩ := key_at r2.sub d2
    refine ⟨l, _, rfl, DPut.t k2 hk (by rw [dicd_len k3]; exact lt_line (by have := c.le; omega)), ?_⟩
    exact q8 σ _ G2 (r2.changeS rfl rfl he h1 (.ofT (dicd_put ks (Dat.mono x2.same d1) k3))) (x1.same.trans x2.same)⟩
/-- d[k] -/
theorem xe_subT (hu : X.A.units + 64 < cLine) (hx : XE X B x ma fx) (ha : XE X B a mk fa) (hs : NoSl a := by exact fun _ _ => rfl) : XE X B (.Subscript x a pos) (fun e Q => ma e (onTd fun kvs => mk e (onTk fun ks => ∃ d, valT kvs ks = some d ∧ Q (.d d)))) (sq fx fa) :=
  ⟨fun e P P' h q => hx.mono e _ _ (onTd_mono fun kvs q => ha.mono e _ _ (onTk_mono fun ks ⟨d, q1, q2⟩ => ⟨d, q1, h _ q2⟩) q) q, peW (pe_dget (by omega) hx.pe ha.pe hs) fun σ H Q ⟨e, G, bq, r, hh⟩ => hx.go r hh fun u q v H1 G1 r1 x1 d1 => by
    obtain ⟨kvs, rfl, q5⟩ := onTd_out q
    obtain ⟨l, ws, rfl, g1, dd⟩ := d1
    refine ha.go r1 q5 fun u2 q6 v2 H2 G2 r2 x2 d2 => ?_
    obtain ⟨ks, rfl, d, q1, q2⟩ := onTk_out q6
    obtain ⟨kb, rfl, hk⟩ := key_at r2.sub d2
    have dv := dicd_val (dicd_mono x2.same dd) ks
    rw [q1] at dv
    obtain ⟨v3, e3, d3⟩ := dv
    have hg := DGet.t (r2.sub _ _ (x2.same _ _ g1)) hk
    rw [e3] at hg
    exact ⟨l, v3, rfl, hg, q2 _ _ G2 r2 (x1.trans x2) d3⟩⟩
end
end Fd

set_option Elab.async false
set_option linter.all false
set_option maxRecDepth 100000
set_option maxHeartbeats 4000000
/-! Fd, part V: sorted(d), d a dict whose keys are tuples of ints. -/
namespace Fd
open PySem PySem.Spec PyProof.Rows L2
theorem kt_ks {H : Hp} {ws : List (List Key × V)} {xs : List (List Key × Addr × Value)} (r : KT H ws xs) : ∀ ks : List (List Int), ws.map (·.1) = ks.map keyI → xs.length = ks.length ∧
    ∀ (j : Nat) (x : List Key × Addr × Value) (k : List Int), xs[j]? = some x → ks[j]? = some k → H x.2.1 = some (.tup (k.map V.int)) := by
  induction r with
  | nil =>
    intro ks h
    cases ks with
    | nil => exact ⟨rfl, fun j x k h => by simp at h⟩
    | cons k ks => simp at h
  | @cons p q ps qs h t ih =>
    intro ks hk
    cases ks with
    | nil => simp at hk
    | cons k ks =>
      rw [List.map_cons, List.map_cons] at hk
      injection hk with e1 e2
      obtain ⟨l, hh⟩ := ih ks e2
      refine ⟨by rw [List.length_cons, List.length_cons, l], fun j x k' h1 h2 => ?_⟩
      cases j with
      | zero =>
        cases h1
        cases h2
        have := h.2.1
        rw [e1, keyI_V] at this
        exact this
      | succ j =>
        rw [List.getElem?_cons_succ] at h1 h2
        exact hh j x k' h1 h2
def addrOf : Value → Addr
  | .ref b => b
  | _ => 0
theorem vals_addr : ∀ {us : List Value}, (∀ u ∈ us, ∃ b, u = .ref b) → Vals ((us.map addrOf).map V.ref) us
  | [], _ => .nil
  | u :: us, h => by
    obtain ⟨b, rfl⟩ := h u List.mem_cons_self
    exact .cons rfl (vals_addr fun w hw => h w (List.mem_cons_of_mem _ hw))
def rSortedDT : List V → Hp → VK → Prop := fun vs H Q => ∃ (a : Addr) (ws : List (List Key × V)) (ks : List (List Int)) (d : Nat) (B : Int), vs = [V.ref a] ∧ Rd H a (.dT ws) ∧ ws.map (·.1) = ks.map keyI ∧ ks.length < 64 ∧ 1 ≤ d ∧ (∀ k ∈ ks, k.length = d ∧ TS.Bd B k) ∧
  ∀ (ks' : List (List Int)) (bs : List Addr) (p : Addr), ks'.Perm ks → ks'.Pairwise (fun a b => TS.code B a ≤ TS.code B b) → H p = none → bs.length = ks'.length → (∀ (j : Nat) (b : Addr) (k : List Int), bs[j]? = some b → ks'[j]? = some k → H b = some (.tup (k.map V.int))) →
    Q (.ref p) (upd H p (.lst (bs.map V.ref)))
section
variable {X : Cx}
theorem cr_sortedDT (hc : X.calm = true) : CallR X (.builtin "sorted") rSortedDT := by
  intro pins s σ H vs us Q I r h
  obtain ⟨a, ws, ks, d, B, rfl, hd, ek, h64, h1, hB, q⟩ := h
  obtain ⟨u, rfl, rx⟩ := r.one
  cases rx
  obtain ⟨z, hs, xs, pr, o, es, ep, ho, hx, hdt, he, hn⟩ := (show ObjOk X.prog X.w H s.heap a (.dT ws) from hd.ok I.hok)
  have l1 : es.size = xs.length := size_of_entries he
  obtain ⟨l2, hk⟩ := kt_ks pr ks ek
  refine Calls.call_function_entry kind_sorted plain_sorted entry_sorted (args_sorted1 _) ?_
  unfold Builtin.«sorted»
  refine wpAny_bind (m := checkCount "sorted" 1 1 _) (wpAny_pure ?_)
  refine wpAny_bind (PySem.W.kdu_collect (A := X.A.in1) (kdl_raw hs hx hdt) (I.ok.hd hc) ho (by rw [sizeLine_eq]; omega) fun h' tk acc kp it => ?_)
  have ea : acc.toList = xs.map fun x => Value.ref x.2.1 := by
    have hl : acc.toList.length = xs.length := by rw [Array.length_toList, it.1]; exact l1
    apply List.ext_getElem?
    intro j
    rw [List.getElem?_map]
    cases hj : acc.toList[j]? with
    | none =>
      have h1 := List.getElem?_eq_none_iff.mp hj
      rw [List.getElem?_eq_none (by omega)]
      all_goals rfl
    | some v =>
      obtain ⟨en, hen, hv⟩ := it.2 j v (by rw [← Array.getElem?_toList]; exact hj)
      have qe := entry_at he j
      rw [hen] at qe
      cases hb : xs[j]? with
      | none =>
        rw [hb] at qe
        exact nomatch (show some en = none from qe)
      | some b =>
        rw [hb] at qe
        have e2 : en = entryOfKey (tupleKind (mixKind X.prog X.w)) b := Option.some.inj qe
        rw [hv, e2]
        all_goals rfl
  have al : acc.toList.length = ks.length := by rw [ea, List.length_map, l2]
  have I1 : Inv X pins σ H { s with heap := h', toks := tk } := I.kept kp
  refine wpAny_bind (wpAny_newList ?_ (by rw [al, sizeLine_eq]; omega))
  have hoL : (h'.push (seqObj "list" acc.toList.toArray 0)).get? h'.objs.size = some (seqObj "list" acc.toList.toArray 0) := Heap.get?_push_size _ rfl
  show wpAny _ _ _ _ _ { s with heap := h'.push (seqObj "list" acc.toList.toArray 0), toks := tk }
  have each : ∀ (j : Nat) (v : Value), acc.toList[j]? = some v → ∃ b k, v = .ref b ∧ ks[j]? = some k ∧ H b = some (.tup (k.map V.int)) ∧ TS.TupInts (h'.push (seqObj "list" acc.toList.toArray 0)) v k := fun j v hv => by
    rw [ea, List.getElem?_map] at hv
    cases hxj : xs[j]? with
    | none => rw [hxj] at hv; cases hv
    | some x =>
      rw [hxj] at hv
      cases hv
      have hjl : j < ks.length := by
        rcases Nat.lt_or_ge j xs.length with z | z
        · omega
        · rw [List.getElem?_eq_none z] at hxj; cases hxj
      have hkj := List.getElem?_eq_getElem hjl
      have hh := hk j x _ hxj hkj
      exact ⟨x.2.1, _, rfl, hkj, hh, (tupI_raw I1 (.inl (.inl hh))).keeps fun b o e _ => Heap.get?_push_of_some _ e⟩
  have eachM : ∀ v ∈ acc.toList, ∃ b k, v = .ref b ∧ k ∈ ks ∧ H b = some (.tup (k.map V.int)) ∧ TS.TupInts (h'.push (seqObj "list" acc.toList.toArray 0)) v k := fun v hv => by
    obtain ⟨j, hj⟩ := List.getElem?_of_mem hv
    obtain ⟨b, k, e1, e2, e3⟩ := each j v hj
    exact ⟨b, k, e1, List.mem_of_getElem? e2, e3⟩
  have eks : acc.toList.map (TS.intsOf (h'.push (seqObj "list" acc.toList.toArray 0))) = ks := by
    apply List.ext_getElem?
    intro j
    rw [List.getElem?_map]
    cases hj : acc.toList[j]? with
    | none =>
      have h1 := List.getElem?_eq_none_iff.mp hj
      rw [List.getElem?_eq_none (by omega)]
      rfl
    | some v =>
      obtain ⟨b, k, e1, e2, _, e4⟩ := each j v hj
      rw [e2]
      exact congrArg some e4.ints
  refine wpAny_bind (wpAny_holding (wpAny_call_entry slot_list_sort ⟨_, hoL, rfl⟩ entry_list_sort (TS.sort_tups (s := { s with heap := h'.push (seqObj "list" acc.toList.toArray 0), toks := tk }) (d := d) (B := B) hoL (by rw [al]; exact h64) h1 (fun v hv => by
      obtain ⟨b, k, _, hk1, _, t⟩ := eachM v hv
      exact ⟨k, t, (hB k hk1).1, (hB k hk1).2⟩) (fun v => TS.code B (TS.intsOf (h'.push (seqObj "list" acc.toList.toArray 0)) v)) (fun v hv ns t => by
      show TS.code B (TS.intsOf (h'.push (seqObj "list" acc.toList.toArray 0)) v) = TS.code B ns
      rw [t.ints]) fun out a1 a2 => ⟨_, rfl, ?_⟩) (args_list_sort _)))
  obtain ⟨e', he'⟩ := PyProof.Rows.sortedHeap_at (vs := acc.toList) (out := out) hoL
  have refs : ∀ v ∈ out.toList, ∃ b, v = .ref b := fun v hv => by
    obtain ⟨b, _, e, _⟩ := eachM v (a1.mem_iff.mp hv)
    exact ⟨b, e⟩
  have ol : out.toList.length = ks.length := by rw [a1.length_eq, al]
  have hlen : ((out.toList.map addrOf).map V.ref).length ≤ sizeLine := by
    rw [List.length_map, List.length_map, ol, sizeLine_eq]
    omega
  refine wpAny_pure ⟨_, rfl, .ref h'.objs.size, upd H h'.objs.size (.lst ((out.toList.map addrOf).map V.ref)), I1.laid (t' := tk) (fun b u e => ?_) (Nat.le_refl _)
    (show ObjOk X.prog X.w _ _ _ (.lst ((out.toList.map addrOf).map V.ref)) from ⟨hlen, out.toList, e', vals_addr refs, by rw [Array.toArray_toList]; exact he'⟩), rfl,
    q (out.toList.map (TS.intsOf (h'.push (seqObj "list" acc.toList.toArray 0)))) (out.toList.map addrOf) _ ?_ ?_ (I1.hok.fresh (Nat.le_refl _)) (by rw [List.length_map, List.length_map]) fun j b k hb hk' => ?_⟩
  · have hb : b < h'.objs.size := Heap.lt_size e
    rw [PyProof.Rows.sortedHeap_old (Nat.ne_of_lt hb) (by rw [size_push']; exact Nat.lt_succ_of_lt hb)]
    exact Heap.get?_push_of_some _ e
  · have := a1.map (TS.intsOf (h'.push (seqObj "list" acc.toList.toArray 0)))
    rw [eks] at this
    exact this
  · rw [List.pairwise_map]
    exact a2
  · rw [List.getElem?_map] at hb hk'
    cases ho : out.toList[j]? with
    | none => rw [ho] at hb; cases hb
    | some v =>
      rw [ho] at hb hk'
      cases hb
      cases hk'
      obtain ⟨b', k', rfl, _, e3, e4⟩ := eachM v (a1.mem_iff.mp (List.mem_of_getElem? ho))
      rw [e4.ints]
      exact e3
end
/-! ### in order -/
def BIG : Int := 1000000000000
/-- the keys in ascending order -/
def sortK (ks : List (List Int)) : List (List Int) := ks.mergeSort fun a b => decide (TS.code BIG a ≤ TS.code BIG b)
theorem code_inj {B : Int} : ∀ {a b : List Int}, a.length = b.length → TS.Bd B a → TS.Bd B b → TS.code B a = TS.code B b → a = b
  | [], [], _, _, _, _ => rfl
  | d :: r, e :: q, hl, h1, h2, h => by
    have hl' : r.length = q.length := by simpa using hl
    have hde : d = e := by
      rcases Int.lt_trichotomy d e with z | z | z
      · have := TS.code_lt hl' h1.tail h2.tail z
        omega
      · exact z
      · have := TS.code_lt hl'.symm h2.tail h1.tail z
        omega
    subst hde
    have hr : TS.code B r = TS.code B q := by
      have h : d * B ^ r.length + TS.code B r = d * B ^ q.length + TS.code B q := h
      rw [hl'] at h
      omega
    rw [code_inj hl' h1.tail h2.tail hr]
  | [], _ :: _, hl, _, _, _ => by simp at hl
  | _ :: _, [], hl, _, _, _ => by simp at hl
/-- keys that may be sorted: fewer than 64, of one length, not below nought -/
structure SrtB (d : Nat) (ks : List (List Int)) : Prop where
  few : ks.length < 64
  pos : 1 ≤ d
  each : ∀ k ∈ ks, k.length = d ∧ TS.Bd BIG k
theorem sortK_perm (ks : List (List Int)) : (sortK ks).Perm ks := List.mergeSort_perm _ _
theorem sortK_pw (ks : List (List Int)) : (sortK ks).Pairwise fun a b => TS.code BIG a ≤ TS.code BIG b := by
  have := List.pairwise_mergeSort (le := fun a b : List Int => decide (TS.code BIG a ≤ TS.code BIG b)) (fun a b c h1 h2 => by
    have h1 := of_decide_eq_true h1
    have h2 := of_decide_eq_true h2
    exact decide_eq_true (Int.le_trans h1 h2)) (fun a b => by
    rcases Int.le_total (TS.code BIG a) (TS.code BIG b) with z | z
    · simp [z]
    · simp [z]) ks
  exact this.imp fun h => of_decide_eq_true h
theorem sortK_eq {d : Nat} {ks ks' : List (List Int)} (h : SrtB d ks) (hp : ks'.Perm ks) (hw : ks'.Pairwise fun a b => TS.code BIG a ≤ TS.code BIG b) : ks' = sortK ks := by
  refine List.Perm.eq_of_pairwise (le := fun a b => TS.code BIG a ≤ TS.code BIG b) (fun a b ha hb h1 h2 => ?_) hw (sortK_pw ks) (hp.trans (sortK_perm ks).symm)
  have qa := h.each a (hp.mem_iff.mp ha)
  have qb := h.each b ((sortK_perm ks).mem_iff.mp hb)
  exact code_inj (by rw [qa.1, qb.1]) qa.2 qb.2 (Int.le_antisymm h1 h2)
section
variable {X : Cx} {B : Bs} {K : PySem.W.Frag} {a : Expr} {m : M} {pos p : Pos}
theorem frozeTups {e : En} {σ : L2.St} {H : Hp} : ∀ {bs : List Addr} {ks : List (List Int)} {G : Hp}, Rel K B bd e σ G H → bs.length = ks.length → (∀ (j : Nat) (b : Addr) (k : List Int), bs[j]? = some b → ks[j]? = some k → H b = some (.tup (k.map V.int))) →
    ∃ G', Rel K B bd e σ G' H ∧ Nxt B.pt G H G' H ∧ Dats K G' (bs.map V.ref) (ks.map fun k => .tuple (k.map .int))
  | [], [], G, r, _, _ => ⟨G, r, .refl, .nil⟩
  | b :: bs, k :: ks, G, r, hl, h => by
    obtain ⟨G1, r1, x1, g1⟩ := r.frozeTup (h 0 b k rfl rfl)
    obtain ⟨G2, r2, x2, d2⟩ := frozeTups (bs := bs) (ks := ks) r1 (by simpa using hl) fun j b' k' h1 h2 => h (j + 1) b' k' (by rw [List.getElem?_cons_succ]; exact h1) (by rw [List.getElem?_cons_succ]; exact h2)
    exact ⟨G2, r2, x1.trans x2, .cons (.tup (x2.same _ _ g1) (dats_ints k)) d2⟩
  | [], _ :: _, _, _, hl, _ => by simp at hl
  | _ :: _, [], _, _, hl, _ => by simp at hl
theorem xo_sortedT (hc : X.calm = true) (ha : XE X B a m fa) (hm : X.mg "sorted" = none) (hg : Gl X "sorted" := by rfl) (hs : starEach [a] X.env = (false, eval a X.env) :: starEach [] X.env := by rfl) (hpl : (backTo pos (starEach [] X.env)).any (·.1) = false := by rfl) :
    XO X B (.Call (.Name "sorted" p) [a] [] pos) (fun e Q => m e (onTd fun kvs => ∃ d, SrtB d (kvs.map (·.1)) ∧ Q ((sortK (kvs.map (·.1))).map fun k => .tuple (k.map .int)))) fa :=
  ⟨fun e P P' h q => ha.mono e _ _ (onTd_mono fun kvs ⟨d, q1, q2⟩ => ⟨d, q1, h _ q2⟩) q, peW (pe_callB (cr_sortedDT hc) hg hm (by decide +kernel) (one_arg ha.pe hs) (he := hs) (hpl := hpl)) fun σ H Q ⟨e, G, bq, r, h⟩ => ha.go r h fun u q v H1 G1 r1 x1 d1 => by
    obtain ⟨kvs, rfl, d, q1, q2⟩ := onTd_out q
    obtain ⟨l, ws, rfl, g1, dd⟩ := d1
    have ek : ws.map (·.1) = (kvs.map (·.1)).map keyI := by
      rw [dd.1, List.map_map]
      rfl
    refine ⟨l, ws, kvs.map (·.1), d, BIG, rfl, .inl (r1.sub _ _ g1), ek, q1.few, q1.pos, q1.each, fun ks' bs p hp hw hn hl hh => ?_⟩
    have es := sortK_eq q1 hp hw
    subst es
    obtain ⟨G2, r2, x2, d2⟩ := frozeTups r1 hl hh
    exact q2 p _ _ _ (r2.laid hn _) ((x1.trans x2).trans (nxt_only hn _)) (ext_both x1.ext hn (r1.nopot hn)) (r2.gold hn) upd_same d2⟩
end
end Fd

set_option Elab.async false
set_option linter.all false
set_option maxRecDepth 100000
set_option maxHeartbeats 4000000
/-! Fd, part U: comprehensions with two fors. -/
namespace Fd
open PySem PySem.Spec PyProof.Rows L2
section
variable {X : Cx} {B : Bs} {K : PySem.W.Frag} {mi mi1 : MI} {mg mg1 : MG} {mt mt1 : MT} {me : M}
def lc2Go (mg : MG) (mt : MT) (mi1 : MI) (mg1 : MG) (mt1 : MT) (me : M) (vs1 : List Nat) (e : En) (Q : List PyData → Prop) : List PyData → List PyData → Prop
  | [], acc => Q acc
  | d :: ds, acc => mg (.d d) e fun e1 => mt e1 fun b => if b = true then mi1 e1 fun ds1 => acc.length + ds1.length ≤ 1000000 ∧ lcGo mg1 mt1 me (wipeE e1 vs1) (fun acc' => lc2Go mg mt mi1 mg1 mt1 me vs1 e Q ds acc') ds1 acc
    else lc2Go mg mt mi1 mg1 mt1 me vs1 e Q ds acc
def mLc2 (mi : MI) (mg : MG) (mt : MT) (mi1 : MI) (mg1 : MG) (mt1 : MT) (me : M) (vs vs1 : List Nat) : MO := fun e Q => mi e fun ds => lc2Go mg mt mi1 mg1 mt1 me vs1 (wipeE e vs) Q ds []
theorem lc2Go_mono (hg : ∀ u e (P P' : En → Prop), (∀ e, P e → P' e) → mg u e P → mg u e P') (ht : ∀ e (P P' : Bool → Prop), (∀ u, P u → P' u) → mt e P → mt e P') (hi1 : ∀ e (P P' : List PyData → Prop), (∀ u, P u → P' u) → mi1 e P → mi1 e P')
    (hg1 : ∀ u e (P P' : En → Prop), (∀ e, P e → P' e) → mg1 u e P → mg1 u e P') (ht1 : ∀ e (P P' : Bool → Prop), (∀ u, P u → P' u) → mt1 e P → mt1 e P') (he : ∀ e (P P' : U → Prop), (∀ u, P u → P' u) → me e P → me e P')
    {vs1 : List Nat} {e : En} {Q Q' : List PyData → Prop} (h : ∀ ds, Q ds → Q' ds) : ∀ (ds acc : List PyData), lc2Go mg mt mi1 mg1 mt1 me vs1 e Q ds acc → lc2Go mg mt mi1 mg1 mt1 me vs1 e Q' ds acc
  | [], acc, q => h acc q
  | d :: ds, acc, q => hg _ _ _ _ (fun e1 q => ht e1 _ _ (fun b q => by
    cases b with
    | true =>
      rw [if_pos rfl] at q ⊢
      exact hi1 e1 _ _ (fun ds1 q => ⟨q.1, lcGo_mono hg1 ht1 he (fun acc' q => lc2Go_mono hg ht hi1 hg1 ht1 he h ds acc' q) ds1 acc q.2⟩) q
    | false =>
      rw [if_neg (by decide)] at q ⊢
      exact lc2Go_mono hg ht hi1 hg1 ht1 he h ds _ q) q) q
/-- a target that stores no list of one's own -/
def MgOk (mg : MG) : Prop := ∀ u e (P : En → Prop), mg u e P → mg u e fun e1 => (∀ (i : Nat) (t : Sl), e1[i]? = some (some t) → t.isOwn = true → e[i]? = some (some t)) ∧ P e1
theorem wipeE_own {e : En} : ∀ {vs : List Nat} {i : Nat} {t : Sl}, (wipeE e vs)[i]? = some (some t) → e[i]? = some (some t)
  | [], _, _, h => h
  | v :: vs, i, t, h => by
    unfold wipeE at h
    rcases set_get h with ⟨_, h2, _⟩ | ⟨_, h2⟩
    · cases h2
    · exact wipeE_own h2
/-- the list that is being made grows by one -/
theorem Rel.grown {e : En} {σ : L2.St} {G H : Hp} {D : Addr} (r : Rel K B bd e σ G H) (gD : G D = none) (oD : B.H0 D = none) (nD : D ∉ B.pt.pots) (no : ∀ (i : Nat) (t : Sl), e[i]? = some (some t) → t.isOwn = true → σ[i]? ≠ some (some (.ref D))) (o : HO) : Rel K B bd e σ G (upd H D o) := r.over gD nD oD no o
theorem Nxt.grown {pt : Pt} {G H G' H' : Hp} {D : Addr} (x : Nxt pt G H G' H') (hD : H D = none) (o : HO) : Nxt pt G H G' (upd H' D o) := ⟨x.same, fun a u z n => by
  have ne : a ≠ D := fun t => by rw [t, hD] at z; cases z
  rw [upd_ne ne]; exact x.ext a u z n, x.grow⟩
theorem wipeE_out {e : En} : ∀ {vs : List Nat} {i : Nat} {t : Sl}, (wipeE e vs)[i]? = some (some t) → i ∉ vs
  | [], _, _, _ => fun z => nomatch z
  | v :: vs, i, t, h => by
    unfold wipeE at h
    rcases set_get h with ⟨_, h2, _⟩ | ⟨h1, h2⟩
    · cases h2
    · exact fun z => (List.mem_cons.mp z).elim h1 (wipeE_out h2)
theorem wipe_at (σ : L2.St) : ∀ {vs : List Nat} {i : Nat}, i ∉ vs → (L2.wipe σ vs)[i]? = σ[i]?
  | [], _, _ => rfl
  | v :: vs, i, h => by
    unfold L2.wipe
    rw [set_ne fun z => h (by rw [z]; exact List.mem_cons_self)]
    exact wipe_at σ fun z => h (List.mem_cons_of_mem _ z)
/-- what holds at each turn -/
def L2I (K : PySem.W.Frag) (B : Bs) (bq : Nat) (e : En) (σ : L2.St) (G H G1 H1 : Hp) (D : Addr) (mb : List PyData → Prop) (H' : Hp) : Prop :=
  ∃ G2 ws acc, Rel K B bq e σ G2 H' ∧ Nxt B.pt G H G2 H' ∧ Nxt B.pt G1 H1 G2 H' ∧ H' D = some (.lst ws) ∧ Dats K G2 ws acc ∧ G2 D = none ∧ mb acc
theorem lc2_conv {tg it : Expr} {js js1 vs vs1 : List Nat} (hi : XI X B tg it mi fi) (hgm : ∀ u e (P P' : En → Prop), (∀ e, P e → P' e) → mg u e P → mg u e P') (htm : ∀ e (P P' : Bool → Prop), (∀ u, P u → P' u) → mt e P → mt e P') (him1 : ∀ e (P P' : List PyData → Prop), (∀ u, P u → P' u) → mi1 e P → mi1 e P')
    (hgm1 : ∀ u e (P P' : En → Prop), (∀ e, P e → P' e) → mg1 u e P → mg1 u e P') (htm1 : ∀ e (P P' : Bool → Prop), (∀ u, P u → P' u) → mt1 e P → mt1 e P') (hem : ∀ e (P P' : U → Prop), (∀ u, P u → P' u) → me e P → me e P') (ok : MgOk mg)
    (hj : ∀ j, j ∈ js → j ∈ vs) (hj1 : ∀ j, j ∈ js1 → j ∈ vs1) (zt : ∀ d, ft.1 d ≤ d) (zi : ∀ d, fi1.1 d ≤ d) (zt1 : ∀ d, ft1.1 d ≤ d) (ze : ∀ d, fe.1 d ≤ d) {σ : L2.St} {H : Hp} {Q : VK} (h : tMO X.K B (mLc2 mi mg mt mi1 mg1 mt1 me vs vs1) fi σ H Q) :
    tLc2 (tMI X.K B mi fi) (tMG X.K B js mg) (tMT X.K B mt ft) (tMF X.K B mi1 fi1) (tMG X.K B js1 mg1) (tMT X.K B mt1 ft1) (tM X.K B me fe) vs vs1 σ H Q := by
  obtain ⟨e, G, bq, r, h⟩ := h
  refine ⟨e, G, _, r, hi.mono e _ _ (fun ds q J H1 G1 r1 x1 w => ?_) h⟩
  obtain ⟨Y, wk, yl⟩ := w
  intro D hD
  have nD := r1.nopot hD
  have HD : H D = none := ext_both x1.ext hD nD
  have oldD : B.H0 D = none := r.old HD
  generalize hQ : (fun ds => ∀ p vs H2 G2, Rel X.K B bq e σ G2 H2 → Nxt B.pt G H G2 H2 → H p = none → G2 p = none → H2 p = some (.lst vs) → Dats X.K G2 vs ds → Q (.ref p) H2) = Qd at q
  let I : Nat → Hp → Prop := fun i => L2I X.K B bq e σ G H G1 H1 D (lc2Go mg mt mi1 mg1 mt1 me vs1 (wipeE e vs) Qd (ds.drop i))
  have noE : ∀ {G2 H2 : Hp}, Rel X.K B bq e σ G2 H2 → ∀ (i : Nat) (t : Sl), e[i]? = some (some t) → t.isOwn = true → σ[i]? ≠ some (some (.ref D)) := fun r2 => rel_no r r2 HD
  refine ⟨fun i m H' => m = ds.length - i ∧ i ≤ ds.length ∧ I i H', ⟨ds.length, rfl, Nat.zero_le _, ⟨G1, [], [], r1.laid hD _, x1.trans (nxt_only hD _), nxt_only hD _, upd_same, .nil, r1.gold hD, q⟩⟩, ?_⟩
  rintro i m H' ⟨rfl, hin, G2, ws, acc, r2, x2, y2, hd2, dd2, gd2, q2⟩
  by_cases hi' : i < ds.length
  case neg =>
    have ei : i = ds.length := by omega
    subst ei
    refine .inl ⟨wk.stops _ y2.ext, ?_⟩
    rw [List.drop_length] at q2
    subst hQ
    exact q2 D ws H' G2 r2 x2 HD gd2 hd2 dd2
  case pos =>
  refine .inr ⟨wk.goes i H' hi' y2.ext, I (i + 1), fun H' p' => ⟨ds.length - (i + 1), by omega, rfl, hi', p'⟩, fun v H2 y0 => ?_⟩
  have y := wk.yields i H' v H2 hi' y2.ext y0
  have hd : ds.drop i = ds[i] :: ds.drop (i + 1) := List.drop_eq_getElem_cons hi'
  rw [hd] at q2
  suffices fin : ∀ G3, Rel X.K B bq e σ G3 H2 → Nxt B.pt G2 H' G3 H2 → UD X.K B.pt G3 v (.d ds[i]) → H2 D = some (.lst ws) → G3 D = none → _ by
    rcases yl i H' v H2 ds[i] y2.ext y (List.getElem?_eq_getElem hi') with ⟨h1, h2⟩ | ⟨T, ws', es, h1, h2, h3, h4, h5⟩
    · subst h1
      exact fin G2 r2 .refl (h2.mono y2.same) hd2 gd2
    · subst h2
      have ne : D ≠ T := ne_of_none hd2 h1
      have gT := r2.gold h1
      have nx := nxt_laid (pt := B.pt) gT h1 (HO.tup ws')
      refine fin _ (r2.new h1 _) nx ?_ (by rw [upd_ne ne]; exact hd2) (by rw [upd_ne ne]; exact gd2)
      rw [h3]
      show Dat _ _ _ ds[i]
      rw [h4]
      exact .tup upd_same ((h5.mono y2.same).mono nx.same)
  intro G3 r3 x3 u3 hd3 gd3
  have q3 := ok _ _ _ q2
  refine ⟨wipeE e vs, G3, _, .d ds[i], r3.wipe vs, u3, hgm _ _ _ _ (fun e1 q σ2 r4 k4 l4 => ?_) q3⟩
  obtain ⟨oe, q⟩ := q
  refine ⟨?_, e1, G3, _, r4.le (zt bq), htm _ _ _ (fun b q H5 G5 r5 x5 => ?_) q⟩
  · rw [← wipe_wipe σ vs]
    exact wipe_same l4 vs fun j hj' => k4 j fun z => hj' (hj j z)
  -- the slots behind the outer target hold no list of D
  have no1 : ∀ (i : Nat) (t : Sl), e1[i]? = some (some t) → t.isOwn = true → σ2[i]? ≠ some (some (.ref D)) := fun i t h1 h2 => by
    have h3 := oe i t h1 h2
    have h4 := wipeE_out h3
    rw [k4 i fun z => h4 (hj i z), wipe_at σ h4]
    exact noE r2 i t (wipeE_own h3) h2
  have back : ∀ {σ' : L2.St} {e' : En} {G6 H6 : Hp}, Rel X.K B bq e' σ' G6 H6 → Nxt B.pt G3 H2 G6 H6 → Rel X.K B bq e σ G6 H6 ∧ Nxt B.pt G H G6 H6 ∧ Nxt B.pt G1 H1 G6 H6 ∧ H6 D = some (.lst ws) ∧ G6 D = none := fun {σ' e' G6 H6} r6 x6 => by
    refine ⟨r3.after r6.sub x6.same r6.gpot r6.J x6.ext fun a o z => ?_, x2.trans (x3.trans x6), y2.trans (x3.trans x6), x6.ext D _ hd3 nD, ?_⟩
    · rcases x6.grow a o z with t | t | t | t
      · exact .inl t
      · exact .inr (.inl t)
      · rw [r6.gpot a t] at z; cases z
      · exact .inr (.inr t)
    · cases z : G6 D with
      | none => rfl
      | some o =>
        rcases x6.grow D o z with t | t | t | ⟨xs, t⟩
        · rw [gd3] at t; cases t
        · rw [hd3] at t; cases t
        · exact absurd t nD
        · have := (x6.ext D _ hd3 nD).symm.trans (r6.sub D o z)
          rw [t] at this; cases this
  cases b with
  | false =>
    rw [if_neg (by decide)] at q
    refine iteF ?_
    obtain ⟨b1, b2, b3, b4, b5⟩ := back r5 x5
    exact ⟨G5, ws, acc, b1, b2, b3, b4, dd2.mono (x3.same.trans x5.same), b5, q⟩
  | true =>
  rw [if_pos rfl] at q
  refine iteT ?_
  refine ⟨e1, G5, _, r5.le (zi bq), him1 e1 _ _ (fun ds1 q J1 H6 G6 r6 x6 w1 => ?_) q⟩
  obtain ⟨hz, q⟩ := q
  obtain ⟨Y1, wk1, yl1⟩ := w1
  obtain ⟨b1, b2, b3, b4, b5⟩ := back r6 (x5.trans x6)
  let I1 : Nat → Hp → Prop := fun j H' => ∃ G2 ws acc', Rel X.K B bq e σ G2 H' ∧ Rel X.K B bq e1 σ2 G2 H' ∧ Nxt B.pt G H G2 H' ∧ Nxt B.pt G1 H1 G2 H' ∧ Same G6 G2 ∧ H' D = some (.lst ws) ∧ Dats X.K G2 ws acc' ∧ G2 D = none ∧ acc'.length ≤ acc.length + j ∧
    lcGo mg1 mt1 me (wipeE e1 vs1) (fun acc' => lc2Go mg mt mi1 mg1 mt1 me vs1 (wipeE e vs) Qd (ds.drop (i + 1)) acc') (ds1.drop j) acc'
  refine ⟨fun j k H' => k = ds1.length - j ∧ j ≤ ds1.length ∧ I1 j H', ⟨ds1.length, rfl, Nat.zero_le _, ⟨G6, ws, acc, b1, r6, b2, b3, Same.refl _, b4, dd2.mono (x3.same.trans (x5.same.trans x6.same)), b5, Nat.le_refl _, q⟩⟩, ?_⟩
  rintro j k H7 ⟨rfl, hjn, G7, ws7, acc7, s7, r7, x7, y7, sm7, hd7, dd7, gd7, hl7, q7⟩
  have cc : Same G6 H7 := fun a o g => r7.sub a o (sm7 a o g)
  by_cases hj' : j < ds1.length
  case neg =>
    have ej : j = ds1.length := by omega
    subst ej
    refine .inl ⟨wk1.stops _ cc, ?_⟩
    rw [List.drop_length] at q7
    exact ⟨G7, ws7, acc7, s7, x7, y7, hd7, dd7, gd7, q7⟩
  case pos =>
  refine .inr ⟨wk1.goes j H7 hj' cc, I1 (j + 1), fun H' p' => ⟨ds1.length - (j + 1), by omega, rfl, hj', p'⟩, fun v1 H8 y0 => ?_⟩
  have yy := wk1.yields j H7 v1 H8 hj' cc y0
  have hd1 : ds1.drop j = ds1[j] :: ds1.drop (j + 1) := List.drop_eq_getElem_cons hj'
  rw [hd1] at q7
  suffices fin1 : ∀ G8, Rel X.K B bq e σ G8 H8 → Rel X.K B bq e1 σ2 G8 H8 → Nxt B.pt G7 H7 G8 H8 → UD X.K B.pt G8 v1 (.d ds1[j]) → H8 D = some (.lst ws7) → G8 D = none → _ by
    rcases yl1 j H7 v1 H8 ds1[j] cc yy (List.getElem?_eq_getElem hj') with ⟨h1, h2⟩ | ⟨T, ws', es, h1, h2, h3, h4, h5⟩
    · subst h1
      exact fin1 G7 s7 r7 .refl (h2.mono sm7) hd7 gd7
    · subst h2
      have ne : D ≠ T := ne_of_none hd7 h1
      have gT := r7.gold h1
      have nx := nxt_laid (pt := B.pt) gT h1 (HO.tup ws')
      refine fin1 _ (s7.new h1 _) (r7.new h1 _) nx ?_ (by rw [upd_ne ne]; exact hd7) (by rw [upd_ne ne]; exact gd7)
      rw [h3]
      show Dat _ _ _ ds1[j]
      rw [h4]
      exact .tup upd_same ((h5.mono sm7).mono nx.same)
  intro G8 s8 r8 x8 u8 hd8 gd8
  refine ⟨wipeE e1 vs1, G8, _, .d ds1[j], r8.wipe vs1, u8, hgm1 _ _ _ _ (fun e3 q σ3 r9 k9 l9 => ?_) q7⟩
  refine ⟨?_, e3, G8, _, r9.le (zt1 bq), htm1 _ _ _ (fun b q H9 G9 r10 x9 => ?_) q⟩
  · rw [← wipe_wipe σ2 vs1]
    exact wipe_same l9 vs1 fun j hj' => k9 j fun z => hj' (hj1 j z)
  have back1 : ∀ {σ' : L2.St} {e' : En} {Ga Ha : Hp}, Rel X.K B bq e' σ' Ga Ha → Nxt B.pt G8 H8 Ga Ha → Rel X.K B bq e σ Ga Ha ∧ Rel X.K B bq e1 σ2 Ga Ha ∧ Nxt B.pt G H Ga Ha ∧ Nxt B.pt G1 H1 Ga Ha ∧ Ha D = some (.lst ws7) ∧ Ga D = none := fun {σ' e' Ga Ha} ra xa => by
    have gr : ∀ a o, Ga a = some o → G8 a = some o ∨ H8 a = none ∨ IsTupO o := fun a o z => by
      rcases xa.grow a o z with t | t | t | t
      · exact .inl t
      · exact .inr (.inl t)
      · rw [ra.gpot a t] at z; cases z
      · exact .inr (.inr t)
    refine ⟨s8.after ra.sub xa.same ra.gpot ra.J xa.ext gr, r8.after ra.sub xa.same ra.gpot ra.J xa.ext gr, x7.trans (x8.trans xa), y7.trans (x8.trans xa), xa.ext D _ hd8 nD, ?_⟩
    cases z : Ga D with
    | none => rfl
    | some o =>
      rcases xa.grow D o z with t | t | t | ⟨xs, t⟩
      · rw [gd8] at t; cases t
      · rw [hd8] at t; cases t
      · exact absurd t nD
      · have := (xa.ext D _ hd8 nD).symm.trans (ra.sub D o z)
        rw [t] at this; cases this
  cases b with
  | false =>
    rw [if_neg (by decide)] at q
    refine iteF ?_
    obtain ⟨c1, c2, c3, c4, c5, c6⟩ := back1 r10 x9
    exact ⟨G9, ws7, acc7, c1, c2, c3, c4, sm7.trans (x8.same.trans x9.same), c5, dd7.mono (x8.same.trans x9.same), c6, by omega, q⟩
  | true =>
  rw [if_pos rfl] at q
  refine iteT ?_
  refine ⟨e3, G9, _, r10.le (ze bq), hem _ _ _ (fun u q v6 H10 G10 r11 x10 d10 => ?_) q⟩
  obtain ⟨c1, c2, c3, c4, c5, c6⟩ := back1 r11 (x9.trans x10)
  match u, q, d10 with
  | .d x, q, d10 =>
    refine ⟨ws7, c5, ?_, G10, ws7 ++ [v6], acc7 ++ [x], c1.over c6 nD oldD (noE c1) _, c2.over c6 nD oldD no1 _, c3.grown HD _, c4.grown hD _, sm7.trans (x8.same.trans (x9.same.trans x10.same)), upd_same, (dd7.mono (x8.same.trans (x9.same.trans x10.same))).app (.one d10), c6, by rw [List.length_append, List.length_singleton]; omega, q⟩
    rw [dd7.len]
    exact lt_line (by omega)
theorem mgok_name (i : Nat) : MgOk fun u e Q => Q (e.set i (some (.val u))) := by
  intro u e P h
  refine ⟨fun j t h1 h2 => ?_, h⟩
  rcases set_get h1 with ⟨_, q, _⟩ | ⟨_, q⟩
  · cases q; cases h2
  · exact q
/-- the parts of a comprehension with two fors -/
structure Lc2P (X : Cx) (B : Bs) (elt tg it tg1 it1 : Expr) (ifs ifs1 : List Expr) (scope : Scope) (own : List (Str × Nat)) (js js1 vs1 : List Nat) (mi : MI) (mg : MG) (mt : MT) (mi1 : MI) (mg1 : MG) (mt1 : MT) (me : M) (fi ft fi1 ft1 fe : Cst) : Prop where
  hi : XI X B tg it mi fi
  ok : BlkOk X.N X.env.scope scope own
  hg : ∀ (s : Shared) (H : Hp) (C : Addr) (cl : List (Str × Addr)) (fp : List Addr), XG (X.blk s H scope (compEnvC scope cl C X.env) fp) B tg js mg
  ht : ∀ (s : Shared) (H : Hp) (C : Addr) (cl : List (Str × Addr)) (fp : List Addr), XTs (X.blk s H scope (compEnvC scope cl C X.env) fp) B ifs mt ft
  hi1 : ∀ (s : Shared) (H : Hp) (C : Addr) (cl : List (Str × Addr)) (fp : List Addr), XF (X.blk s H scope (compEnvC scope cl C X.env) fp) B tg1 it1 mi1 fi1
  hg1 : ∀ (s : Shared) (H : Hp) (C : Addr) (cl : List (Str × Addr)) (fp : List Addr), XG (X.blk s H scope (compEnvC scope cl C X.env) fp) B tg1 js1 mg1
  ht1 : ∀ (s : Shared) (H : Hp) (C : Addr) (cl : List (Str × Addr)) (fp : List Addr), XTs (X.blk s H scope (compEnvC scope cl C X.env) fp) B ifs1 mt1 ft1
  he : ∀ (s : Shared) (H : Hp) (C : Addr) (cl : List (Str × Addr)) (fp : List Addr), XE (X.blk s H scope (compEnvC scope cl C X.env) fp) B elt me fe
  hj : ∀ j, j ∈ js → j ∈ own.map (·.2)
  hj1 : ∀ j, j ∈ js1 → j ∈ vs1
  hv : ∀ j, j ∈ vs1 → j ∈ own.map (·.2)
  mok : MgOk mg
  at0 : Nonempty (Shared × Hp)
  zt : ∀ d, ft.1 d ≤ d := by intro d; dsimp only; omega
  zi : ∀ d, fi1.1 d ≤ d := by intro d; dsimp only; omega
  zt1 : ∀ d, ft1.1 d ≤ d := by intro d; dsimp only; omega
  ze : ∀ d, fe.1 d ≤ d := by intro d; dsimp only; omega
theorem xo_lc2 {elt tg it tg1 it1 : Expr} {ifs ifs1 : List Expr} {scope : Scope} {own : List (Str × Nat)} {js js1 vs1 : List Nat} {pos : Pos} (hN : X.N.Nodup) (L : Lc2P X B elt tg it tg1 it1 ifs ifs1 scope own js js1 vs1 mi mg mt mi1 mg1 mt1 me fi ft fi1 ft1 fe) (hc : X.calm = true := by rfl)
    (hs : ∀ x, foldedSetIterable it X.env x = pure x := by intro _; rfl) (hs1 : ∀ env x, foldedSetIterable it1 env x = pure x := by intro _ _; rfl) :
    XO X B (.ListComp elt [⟨tg, it, ifs, 0⟩, ⟨tg1, it1, ifs1, 0⟩] scope pos) (mLc2 mi mg mt mi1 mg1 mt1 me (own.map (·.2)) vs1) fi := by
  obtain ⟨⟨s0, H0⟩⟩ := L.at0
  have gm := (L.hg s0 H0 0 [] []).mono
  have tm := (L.ht s0 H0 0 [] []).mono
  have im := (L.hi1 s0 H0 0 [] []).mono
  have gm1 := (L.hg1 s0 H0 0 [] []).mono
  have tm1 := (L.ht1 s0 H0 0 [] []).mono
  have em := (L.he s0 H0 0 [] []).mono
  exact ⟨fun e P P' h q => L.hi.mono e _ _ (fun ds q => lc2Go_mono gm tm im gm1 tm1 em h ds [] q) q,
    peW (pe_lc2 hc hN L.hi.pi L.ok L.hv (fun s H C cl fp => (L.hg s H C cl fp).pg) (fun s H C cl fp => (L.ht s H C cl fp).pt) (fun s H C cl fp => (L.hi1 s H C cl fp).pi) (fun s H C cl fp => (L.hg1 s H C cl fp).pg) (fun s H C cl fp => (L.ht1 s H C cl fp).pt) (fun s H C cl fp => (L.he s H C cl fp).pe) hs hs1)
      fun σ H Q h => lc2_conv L.hi gm tm im gm1 tm1 em L.mok L.hj L.hj1 L.zt L.zi L.zt1 L.ze h⟩
end
end Fd

set_option Elab.async false
set_option linter.all false
set_option maxRecDepth 100000
set_option maxHeartbeats 4000000
/-! Fd, part T: is and is not of bools. -/
namespace Fd
open PySem PySem.Spec PyProof.Rows L2
section
variable {X : Cx} {B : Bs} {K : PySem.W.Frag}
theorem op_isB : OpR X (compareOp .Is) (fun x y H Q => ∃ m n, x = .bl m ∧ y = .bl n ∧ Q (.bl (decide (m = n))) H) := by
  intro pins s σ H x y v u Q I rx ry h
  obtain ⟨m, n, rfl, rfl, q⟩ := h
  cases (show v = Value.bool m from rx)
  cases (show u = Value.bool n from ry)
  by_cases e : m = n
  · subst e
    exact wpAny_is_self rfl ⟨.bl true, H, I, rfl, by simpa using q⟩
  · exact wpAny_is_other rfl (fun z => e (Value.bool.inj z)) ⟨.bl false, H, I, rfl, by simpa [e] using q⟩
theorem op_notB : OpR X (compareOp .IsNot) (fun x y H Q => ∃ m n, x = .bl m ∧ y = .bl n ∧ Q (.bl (!decide (m = n))) H) := by
  intro pins s σ H x y v u Q I rx ry h
  obtain ⟨m, n, rfl, rfl, q⟩ := h
  cases (show v = Value.bool m from rx)
  cases (show u = Value.bool n from ry)
  by_cases e : m = n
  · subst e
    exact wpAny_isNot_self rfl ⟨.bl false, H, I, rfl, by simpa using q⟩
  · exact wpAny_isNot_other rfl (fun z => e (Value.bool.inj z)) ⟨.bl true, H, I, rfl, by simpa [e] using q⟩
def gIsB (neg : Bool) : G2
  | .d (.bool a), .d (.bool b), Q => Q (.d (.bool (if neg = true then !decide (a = b) else decide (a = b))))
  | _, _, _ => False
theorem gIsB_out {neg : Bool} {Q : U → Prop} {u w : U} (q : gIsB neg u w Q) : ∃ a b, u = .d (.bool a) ∧ w = .d (.bool b) ∧ Q (.d (.bool (if neg = true then !decide (a = b) else decide (a = b)))) := by
  unfold gIsB at q
  split at q
  · exact ⟨_, _, rfl, rfl, q⟩
  · exact q.elim
theorem gIsB_b {neg a b : Bool} {Q : U → Prop} : gIsB neg (.d (.bool a)) (.d (.bool b)) Q = Q (.d (.bool (if neg = true then !decide (a = b) else decide (a = b)))) := rfl
theorem ok_isB : OkR K B (fun x y H Q => ∃ m n, x = .bl m ∧ y = .bl n ∧ Q (.bl (decide (m = n))) H) (gIsB false) where
  mono := fun u w Q Q' h q => by
    obtain ⟨a, b, rfl, rfl, q⟩ := gIsB_out q
    exact h _ q
  ok := fun bd e σ G H x y u w Q R rl dx dy q k => by
    obtain ⟨a, b, rfl, rfl, q⟩ := gIsB_out q
    cases dx
    cases dy
    exact ⟨a, b, rfl, rfl, k _ _ H G q rl .refl (.bl _)⟩
theorem ok_notB : OkR K B (fun x y H Q => ∃ m n, x = .bl m ∧ y = .bl n ∧ Q (.bl (!decide (m = n))) H) (gIsB true) where
  mono := fun u w Q Q' h q => by
    obtain ⟨a, b, rfl, rfl, q⟩ := gIsB_out q
    exact h _ q
  ok := fun bd e σ G H x y u w Q R rl dx dy q k => by
    obtain ⟨a, b, rfl, rfl, q⟩ := gIsB_out q
    cases dx
    cases dy
    exact ⟨a, b, rfl, rfl, k _ _ H G q rl .refl (.bl _)⟩
end
end Fd

set_option Elab.async false
set_option linter.all false
set_option maxRecDepth 100000
set_option maxHeartbeats 1000000
/-! Fd, part S: two displays of tuples of ints are one text just if they are one. -/
namespace Fd
open PySem PySem.Spec PyProof.Rows L2
mutual
inductive Pl : PyData → Prop
  | int (i : Int) : Pl (.int i)
  | tup {xs : List PyData} : Pls xs → Pl (.tuple xs)
inductive Pls : List PyData → Prop
  | nil : Pls []
  | cons {x : PyData} {xs : List PyData} : Pl x → Pls xs → Pls (x :: xs)
end
def tx (d : PyData) : List Nat := d.shown.cps.toList
/-- what stands behind an item -/
def Dl (r : List Nat) : Prop := r = [] ∨ ∃ c t, r = c :: t ∧ (c = 44 ∨ c = 41)
theorem dl_split : ∀ {l m r r' : List Nat}, (∀ c ∈ l, c ≠ 44 ∧ c ≠ 41) → (∀ c ∈ m, c ≠ 44 ∧ c ≠ 41) → Dl r → Dl r' → l ++ r = m ++ r' → l = m ∧ r = r'
  | [], [], _, _, _, _, _, _, h => ⟨rfl, h⟩
  | [], b :: m, r, r', _, hm, hr, _, h => by
    have h : r = b :: (m ++ r') := h
    have hb := hm b List.mem_cons_self
    rcases hr with z | ⟨c, t, z, hc⟩
    · rw [z] at h; cases h
    · rw [z] at h
      injection h with e _
      rcases hc with q | q
      · exact absurd (e.symm.trans q) hb.1
      · exact absurd (e.symm.trans q) hb.2
  | a :: l, [], r, r', hl, _, _, hr', h => by
    have h : a :: (l ++ r) = r' := h
    have ha := hl a List.mem_cons_self
    rcases hr' with z | ⟨c, t, z, hc⟩
    · rw [z] at h; cases h
    · rw [z] at h
      injection h with e _
      rcases hc with q | q
      · exact absurd (e.trans q) ha.1
      · exact absurd (e.trans q) ha.2
  | a :: l, b :: m, r, r', hl, hm, hr, hr', h => by
    rw [List.cons_append, List.cons_append] at h
    injection h with e h
    obtain ⟨h1, h2⟩ := dl_split (fun c hc => hl c (List.mem_cons_of_mem _ hc)) (fun c hc => hm c (List.mem_cons_of_mem _ hc)) hr hr' h
    exact ⟨by rw [e, h1], h2⟩
theorem tx_int (i : Int) : tx (.int i) = (toString i).toList.map Char.toNat := by
  unfold tx
  rw [PyData.shown_int]
  exact signs_ofString _
theorem tx_free (i : Int) : ∀ c ∈ tx (.int i), c ≠ 44 ∧ c ≠ 41 ∧ c ≠ 40 := fun c hc => by
  unfold tx at hc
  refine ⟨fun z => ?_, fun z => ?_, fun z => ?_⟩
  all_goals
    rw [z] at hc
    exact shown_int_free' (by decide) i hc
theorem tx_ne (i : Int) : tx (.int i) ≠ [] := by
  rw [tx_int]
  intro h
  have h := List.map_eq_nil_iff.mp h
  have e : toString i = "" := String.ext (by rw [h]; rfl)
  have : Int.repr i = "" := e
  cases i with
  | ofNat n =>
    have h2 : Nat.repr n = "" := this
    exact Nat.repr_ne_empty h2
  | negSucc n => simp [Int.repr] at this
theorem tx_inj {i j : Int} (h : tx (.int i) = tx (.int j)) : i = j := by
  rw [tx_int, tx_int] at h
  have e : (toString i).toList = (toString j).toList := (List.map_inj_right fun a b hab => Char.toNat_inj.mp hab).mp h
  exact Int.repr_injective (String.ext e)
/-- the items from the second form on -/
def tJ : List PyData → List Nat
  | [] => [41]
  | [x] => tx x ++ [41]
  | x :: y :: r => tx x ++ 44 :: 32 :: tJ (y :: r)
/-- what stands behind the bracket -/
def tB : List PyData → List Nat
  | [] => [41]
  | [x] => tx x ++ [44, 41]
  | x :: y :: r => tx x ++ 44 :: 32 :: tJ (y :: r)
theorem tJ_join : ∀ (x : PyData) (r : List PyData), (Str.join ", " (PyData.shownAll (x :: r))).cps.toList ++ [41] = tJ (x :: r)
  | x, [] => rfl
  | x, y :: r => by
    have ih := tJ_join y r
    show (x.shown ++ ", " ++ Str.join ", " (PyData.shownAll (y :: r))).cps.toList ++ [41] = tx x ++ 44 :: 32 :: tJ (y :: r)
    rw [← ih, Str.cps_append, Str.cps_append, Array.toList_append, Array.toList_append]
    have e : ((", " : String) : Str).cps.toList = [44, 32] := by decide
    rw [e]
    simp [tx]
theorem tx_tup (xs : List PyData) : tx (.tuple xs) = 40 :: tB xs := by
  unfold tx
  simp only [PyData.shown]
  unfold tupleText
  rw [Str.cps_append, Str.cps_append, Array.toList_append, Array.toList_append]
  have e : ((("(" : String) : Str)).cps.toList = [40] := by decide
  rw [e]
  cases xs with
  | nil => decide
  | cons x r =>
    cases r with
    | nil =>
      have e2 : ((if (PyData.shownAll [x]).length == 1 then ",)" else ")" : String) : Str).cps.toList = [44, 41] := by
        show ((",)" : String) : Str).cps.toList = _
        decide
      rw [e2]
      rfl
    | cons y r =>
      have e2 : ((if (PyData.shownAll (x :: y :: r)).length == 1 then ",)" else ")" : String) : Str).cps.toList = [41] := by
        have : ((PyData.shownAll (x :: y :: r)).length == 1) = false := by simp [PyData.shownAll]
        rw [this]
        decide
      rw [e2]
      have := tJ_join x (y :: r)
      rw [List.append_assoc, this]
      rfl
theorem dl44 (t : List Nat) : Dl (44 :: t) := .inr ⟨44, t, rfl, .inl rfl⟩
theorem dl41 (t : List Nat) : Dl (41 :: t) := .inr ⟨41, t, rfl, .inr rfl⟩
theorem pl_hd {d : PyData} (h : Pl d) : ∃ a t, tx d = a :: t ∧ a ≠ 41 := by
  cases h with
  | int j =>
    cases e : tx (.int j) with
    | nil => exact absurd e (tx_ne j)
    | cons a l => exact ⟨a, l, rfl, (tx_free j a (by rw [e]; exact List.mem_cons_self)).2.1⟩
  | tup p => exact ⟨40, _, tx_tup _, by decide⟩
theorem pl_no41 {y : PyData} (py : Pl y) (ys : List PyData) {r r' : List Nat} (h : tB [] ++ r = tB (y :: ys) ++ r') : False := by
  obtain ⟨a, t, e, ne⟩ := pl_hd py
  have h : ∃ t', 41 :: r = a :: t' := by
    cases ys with
    | nil => exact ⟨t ++ [44, 41] ++ r', by rw [show tB [y] = tx y ++ [44, 41] from rfl, e] at h; exact h⟩
    | cons z zs => exact ⟨t ++ 44 :: 32 :: tJ (z :: zs) ++ r', by rw [show tB (y :: z :: zs) = tx y ++ 44 :: 32 :: tJ (z :: zs) from rfl, e] at h; exact h⟩
  obtain ⟨t', h⟩ := h
  injection h with h _
  exact ne h.symm
mutual
theorem pl_key : ∀ {d d' : PyData} {r r' : List Nat}, Pl d → Pl d' → Dl r → Dl r' → tx d ++ r = tx d' ++ r' → d = d' ∧ r = r'
  | _, _, r, r', .int i, .int j, h1, h2, h => by
    obtain ⟨e1, e2⟩ := dl_split (fun c hc => ⟨(tx_free i c hc).1, (tx_free i c hc).2.1⟩) (fun c hc => ⟨(tx_free j c hc).1, (tx_free j c hc).2.1⟩) h1 h2 h
    exact ⟨by rw [tx_inj e1], e2⟩
  | _, _, r, r', .int i, .tup (xs := xs) _, _, _, h => by
    rw [tx_tup] at h
    have f := tx_free i
    cases e : tx (.int i) with
    | nil => exact absurd e (tx_ne i)
    | cons a l =>
      rw [e] at h f
      injection h with h _
      exact absurd h (f a List.mem_cons_self).2.2
  | _, _, r, r', .tup (xs := xs) _, .int i, _, _, h => by
    rw [tx_tup] at h
    have f := tx_free i
    cases e : tx (.int i) with
    | nil => exact absurd e (tx_ne i)
    | cons a l =>
      rw [e] at h f
      injection h with h _
      exact absurd h.symm (f a List.mem_cons_self).2.2
  | _, _, r, r', .tup (xs := xs) px, .tup (xs := ys) py, _, _, h => by
    rw [tx_tup, tx_tup, List.cons_append, List.cons_append] at h
    injection h with _ h
    obtain ⟨e1, e2⟩ := pls_key px py h
    exact ⟨by rw [e1], e2⟩
theorem pls_key : ∀ {xs ys : List PyData} {r r' : List Nat}, Pls xs → Pls ys → tB xs ++ r = tB ys ++ r' → xs = ys ∧ r = r'
  | _, _, r, r', .nil, .nil, h => by
    have h : 41 :: r = 41 :: r' := h
    injection h with _ h
    exact ⟨rfl, h⟩
  | _, _, r, r', .nil, .cons (x := y) (xs := ys) py pys, h => (pl_no41 py ys h).elim
  | _, _, r, r', .cons (x := x) (xs := xs) px pxs, .nil, h => (pl_no41 px xs h.symm).elim
  | _, _, r, r', .cons (x := x) (xs := xs) px pxs, .cons (x := y) (xs := ys) py pys, h => by
    cases pxs with
    | nil =>
      cases pys with
      | nil =>
        have h : tx x ++ [44, 41] ++ r = tx y ++ [44, 41] ++ r' := h
        rw [List.append_assoc, List.append_assoc] at h
        obtain ⟨e1, e2⟩ := pl_key px py (dl44 _) (dl44 _) h
        injection e2 with _ e2
        injection e2 with _ e2
        exact ⟨by rw [e1], e2⟩
      | @cons z zs pz pzs =>
        have h : tx x ++ [44, 41] ++ r = tx y ++ 44 :: 32 :: tJ (z :: zs) ++ r' := h
        rw [List.append_assoc, List.append_assoc] at h
        obtain ⟨e1, e2⟩ := pl_key px py (dl44 _) (dl44 _) h
        injection e2 with _ e2
        injection e2 with e2 _
        omega
    | @cons u us pu pus =>
      cases pys with
      | nil =>
        have h : tx x ++ 44 :: 32 :: tJ (u :: us) ++ r = tx y ++ [44, 41] ++ r' := h
        rw [List.append_assoc, List.append_assoc] at h
        obtain ⟨e1, e2⟩ := pl_key px py (dl44 _) (dl44 _) h
        injection e2 with _ e2
        injection e2 with e2 _
        omega
      | @cons z zs pz pzs =>
        have h : tx x ++ 44 :: 32 :: tJ (u :: us) ++ r = tx y ++ 44 :: 32 :: tJ (z :: zs) ++ r' := h
        rw [List.append_assoc, List.append_assoc] at h
        obtain ⟨e1, e2⟩ := pl_key px py (dl44 _) (dl44 _) h
        injection e2 with _ e2
        injection e2 with _ e2
        obtain ⟨e3, e4⟩ := plj_key (.cons pu pus) (.cons pz pzs) (by simp) (by simp) e2
        exact ⟨by rw [e1, e3], e4⟩
theorem plj_key : ∀ {xs ys : List PyData} {r r' : List Nat}, Pls xs → Pls ys → xs ≠ [] → ys ≠ [] → tJ xs ++ r = tJ ys ++ r' → xs = ys ∧ r = r'
  | _, _, r, r', .nil, _, n, _, _ => absurd rfl n
  | _, _, r, r', .cons _ _, .nil, _, n, _ => absurd rfl n
  | _, _, r, r', .cons (x := x) (xs := xs) px pxs, .cons (x := y) (xs := ys) py pys, _, _, h => by
    cases pxs with
    | nil =>
      cases pys with
      | nil =>
        have h : tx x ++ [41] ++ r = tx y ++ [41] ++ r' := h
        rw [List.append_assoc, List.append_assoc] at h
        obtain ⟨e1, e2⟩ := pl_key px py (dl41 _) (dl41 _) h
        injection e2 with _ e2
        exact ⟨by rw [e1], e2⟩
      | @cons z zs pz pzs =>
        have h : tx x ++ [41] ++ r = tx y ++ 44 :: 32 :: tJ (z :: zs) ++ r' := h
        rw [List.append_assoc, List.append_assoc] at h
        obtain ⟨e1, e2⟩ := pl_key px py (dl41 _) (dl44 _) h
        injection e2 with e2 _
        omega
    | @cons u us pu pus =>
      cases pys with
      | nil =>
        have h : tx x ++ 44 :: 32 :: tJ (u :: us) ++ r = tx y ++ [41] ++ r' := h
        rw [List.append_assoc, List.append_assoc] at h
        obtain ⟨e1, e2⟩ := pl_key px py (dl44 _) (dl41 _) h
        injection e2 with e2 _
        omega
      | @cons z zs pz pzs =>
        have h : tx x ++ 44 :: 32 :: tJ (u :: us) ++ r = tx y ++ 44 :: 32 :: tJ (z :: zs) ++ r' := h
        rw [List.append_assoc, List.append_assoc] at h
        obtain ⟨e1, e2⟩ := pl_key px py (dl44 _) (dl44 _) h
        injection e2 with _ e2
        injection e2 with _ e2
        obtain ⟨e3, e4⟩ := plj_key (.cons pu pus) (.cons pz pzs) (by simp) (by simp) e2
        exact ⟨by rw [e1, e3], e4⟩
end
theorem shown_inj {d d' : PyData} (h : Pl d) (h' : Pl d') (e : d.shown = d'.shown) : d = d' :=
  (pl_key (r := []) (r' := []) h h' (.inl rfl) (.inl rfl) (by unfold tx; rw [e])).1
mutual
theorem eqv_pl : ∀ {d d' : PyData}, Pl d → Pl d' → (PyData.eqv d d' = true ↔ d = d')
  | _, _, .int i, .int j => by
    rw [eqv_int, decide_eq_true_eq]
    exact ⟨fun h => by rw [h], fun h => by injection h⟩
  | _, _, .int i, .tup _ => by simp [PyData.eqv]
  | _, _, .tup _, .int j => by simp [PyData.eqv]
  | _, _, .tup px, .tup py => by
    simp only [PyData.eqv]
    rw [eqv_pls px py]
    exact ⟨fun h => by rw [h], fun h => by injection h⟩
theorem eqv_pls : ∀ {xs ys : List PyData}, Pls xs → Pls ys → (PyData.eqvAll xs ys = true ↔ xs = ys)
  | _, _, .nil, .nil => by simp [PyData.eqvAll]
  | _, _, .nil, .cons _ _ => by simp [PyData.eqvAll]
  | _, _, .cons _ _, .nil => by simp [PyData.eqvAll]
  | _, _, .cons px pxs, .cons py pys => by
    simp only [PyData.eqvAll, Bool.and_eq_true]
    rw [eqv_pl px py, eqv_pls pxs pys]
    exact ⟨fun h => by rw [h.1, h.2], fun h => by injection h with a b; exact ⟨a, b⟩⟩
end
/-- == of two displays and == of their texts are one -/
theorem eqv_shown {d d' : PyData} (h : Pl d) (h' : Pl d') : PyData.eqv (.str d.shown) (.str d'.shown) = PyData.eqv d d' := by
  have e : PyData.eqv (.str d.shown) (.str d'.shown) = true ↔ d.shown = d'.shown := by simp [PyData.eqv]
  by_cases q : d = d'
  · rw [q, (eqv_pl h' h').mpr rfl, eqv_str]
  · have a : ¬ PyData.eqv d d' = true := fun z => q ((eqv_pl h h').mp z)
    have b : ¬ PyData.eqv (.str d.shown) (.str d'.shown) = true := fun z => q (shown_inj h h' (e.mp z))
    rw [Bool.not_eq_true] at a b
    rw [a, b]
theorem pls_of {α : Type} {f : α → PyData} : ∀ {ls : List α}, (∀ a ∈ ls, Pl (f a)) → Pls (ls.map f)
  | [], _ => .nil
  | a :: ls, h => .cons (h a List.mem_cons_self) (pls_of fun b hb => h b (List.mem_cons_of_mem _ hb))
theorem pl_ints (ns : List Int) : Pl (.tuple (ns.map .int)) := .tup (pls_of fun i _ => .int i)
end Fd

set_option Elab.async false
set_option linter.all false
set_option maxRecDepth 100000
set_option maxHeartbeats 4000000
/-! Fd, part R: xs.extend(ys). -/
namespace Fd
open PySem PySem.Spec PyProof.Rows L2
section
variable {X : Cx} {B : Bs} {K : PySem.W.Frag} {a : Expr} {ml : ML} {pos apos p : Pos} {n : Str}
theorem xs_extend (j : Nat) {spos : Pos} (ha : XL X B a ml fa) (h : ∀ {t t' : TE}, PE X (.Name n p) t → PE X a t' → PE X (.Call (.Attribute (.Name n p) "extend" apos) [a] [] pos) (tBM X.K "list" rExtend t (tCons t' tNil))) (hN : X.N[j]? = some n := by rfl)
    (hv : Vis X.env.scope n := by first | exact Or.inl rfl | exact Or.inr (Or.inl rfl) | exact Or.inr (Or.inr rfl)) (hw : swapsWith (.Call (.Attribute (.Name n p) "extend" apos) [a] [] pos) none spos.line X.env = pure false := by rfl)
    (hd : (n == ("__debug__" : Str)) = false := by decide) (hcd : (n == ("__classdict__" : Str)) = false := by decide) : XS X B (.Expr (.Call (.Attribute (.Name n p) "extend" apos) [a] [] pos) spos) (mExt j ml) fa :=
  ⟨fun e k k' hh q => onOwn_mono (fun ds q => ha.mono e _ _ (fun kd es q => ⟨q.1, q.2.1, hh.nx _ q.2.2⟩) q) q, psW (ps_expr (h (pe_var hN hv hd hcd) ha.pe) hw) fun D σ H ⟨e, G, bq, r, q⟩ => by
    obtain ⟨ds, he, q5⟩ := onOwn_out q
    obtain ⟨l, vs, h1, h2, h3, ty⟩ := ownTy r he
    refine ⟨.ref l, h1, ty, ha.go r q5 fun k es q6 v H1 G1 r1 x1 d1 => ?_⟩
    obtain ⟨rfl, c, q7⟩ := q6
    obtain ⟨b, ws, rfl, sq, dd⟩ := d1
    obtain ⟨l', vs', k1, k2, k3, _⟩ := ownTy r1 he
    rw [h1] at k1; cases k1
    refine ⟨l, b, vs', ws, rfl, rfl, k2, sq.1, ?_, ?_⟩
    · rw [k3.len, dd.len]
      exact le_line c.le
    · exact q7 σ _ G1 (r1.change he h1 (k3.app dd)) x1.same⟩
theorem rg_dats {G : Hp} (a b : Int) : Dats K G (rgV a b) (rngD a b) := by
  have e1 : rgV a b = ((List.range (b - a).toNat).map fun i : Nat => a + (i : Int)).map V.int := by
    unfold rgV
    rw [List.map_map]
    rfl
  have e2 : rngD a b = ((List.range (b - a).toNat).map fun i : Nat => a + (i : Int)).map PyData.int := by
    unfold rngD
    rw [List.map_map]
    rfl
  rw [e1, e2]
  exact dats_ints _
variable {b : Expr} {m mb : M} {p2 pos2 : Pos}
/-- list(range(n)) -/
theorem xo_listRg1 (ha : XE X B a m fa) (hm : X.mg "list" = none) (hm2 : X.mg "range" = none) (hc : X.calm = true := by rfl) (hg : Gl X "list" := by rfl) (hg2 : Gl X "range" := by rfl) (hs : starEach [a] X.env = (false, eval a X.env) :: starEach [] X.env := by rfl)
    (hs2 : starEach [.Call (.Name "range" p2) [a] [] pos2] X.env = (false, eval (.Call (.Name "range" p2) [a] [] pos2) X.env) :: starEach [] X.env := by rfl) :
    XO X B (.Call (.Name "list" p) [.Call (.Name "range" p2) [a] [] pos2] [] pos) (fun e Q => m e (onI fun j => RgB j ∧ Fits j.toNat ∧ Q (rngD 0 j))) fa :=
  ⟨fun e P P' hh q => ha.mono e _ _ (onI_mono fun i q => ⟨q.1, q.2.1, hh _ q.2.2⟩) q, peW (pe_listRg hc hg hm (prg_1 hg2 hm2 ha.pe hs) hs2) fun σ H Q ⟨e, G, bq, r, hh⟩ => ha.go r hh fun u q v H1 G1 r1 x1 d1 => by
    obtain ⟨j, rfl, q1, q2, q3⟩ := onI_out q
    cases d1
    have b1 := q1.lo
    have b2 := q1.hi
    have b3 := q2.le
    refine ⟨j, rfl, ⟨by omega, by omega, by omega, by omega, by rw [Int.sub_zero]; exact Nat.le_trans b3 (by decide)⟩, fun p hp => ?_⟩
    exact q3 p _ _ _ (r1.laid hp _) (x1.trans (nxt_only hp _)) (ext_both x1.ext hp (r1.nopot hp)) (r1.gold hp) upd_same (rg_dats 0 j)⟩
/-- list(range(a, b)) -/
theorem xo_listRg2 (ha : XE X B a m fa) (hb : XE X B b mb fb) (hm : X.mg "list" = none) (hm2 : X.mg "range" = none) (hc : X.calm = true := by rfl) (hg : Gl X "list" := by rfl) (hg2 : Gl X "range" := by rfl) (hs : starEach [a, b] X.env = (false, eval a X.env) :: starEach [b] X.env := by rfl) (hs1 : starEach [b] X.env = (false, eval b X.env) :: starEach [] X.env := by rfl)
    (hs2 : starEach [.Call (.Name "range" p2) [a, b] [] pos2] X.env = (false, eval (.Call (.Name "range" p2) [a, b] [] pos2) X.env) :: starEach [] X.env := by rfl) (hpl : (backTo pos2 (starEach [b] X.env)).any (·.1) = false := by rfl) :
    XO X B (.Call (.Name "list" p) [.Call (.Name "range" p2) [a, b] [] pos2] [] pos) (fun e Q => m e (onI fun i => mb e (onI fun j => RgB i ∧ RgB j ∧ Fits (j - i).toNat ∧ Q (rngD i j)))) (sq fa fb) :=
  ⟨fun e P P' hh q => ha.mono e _ _ (onI_mono fun i q => hb.mono e _ _ (onI_mono fun j q => ⟨q.1, q.2.1, q.2.2.1, hh _ q.2.2.2⟩) q) q, peW (pe_listRg hc hg hm (prg_2 hg2 hm2 ha.pe hb.pe hs hs1 (hp := hpl)) hs2) fun σ H Q ⟨e, G, bq, r, hh⟩ => ha.go r hh fun u q v H1 G1 r1 x1 d1 => by
    obtain ⟨i, rfl, q5⟩ := onI_out q
    refine hb.go r1 q5 fun u q v H2 G2 r2 x2 d2 => ?_
    obtain ⟨j, rfl, q1, q2, q3, q4⟩ := onI_out q
    cases d1
    cases d2
    have b1 := q1.lo
    have b2 := q1.hi
    have b3 := q2.lo
    have b4 := q2.hi
    have b5 := q3.le
    refine ⟨i, j, rfl, rfl, ⟨by omega, by omega, by omega, by omega, Nat.le_trans b5 (by decide)⟩, fun p hp => ?_⟩
    exact q4 p _ _ _ (r2.laid hp _) ((x1.trans x2).trans (nxt_only hp _)) (ext_both (x1.trans x2).ext hp (r2.nopot hp)) (r2.gold hp) upd_same (rg_dats i j)⟩
/-- tuple(range(n)) -/
theorem xe_tupRg1 (ha : XE X B a m fa) (hm : X.mg "tuple" = none) (hm2 : X.mg "range" = none) (hc : X.calm = true := by rfl) (hg : Gl X "tuple" := by rfl) (hg2 : Gl X "range" := by rfl) (hs : starEach [a] X.env = (false, eval a X.env) :: starEach [] X.env := by rfl)
    (hs2 : starEach [.Call (.Name "range" p2) [a] [] pos2] X.env = (false, eval (.Call (.Name "range" p2) [a] [] pos2) X.env) :: starEach [] X.env := by rfl) :
    XE X B (.Call (.Name "tuple" p) [.Call (.Name "range" p2) [a] [] pos2] [] pos) (fun e Q => m e (onI fun j => RgB j ∧ Fits j.toNat ∧ Q (.d (.tuple (rngD 0 j))))) fa :=
  ⟨fun e P P' hh q => ha.mono e _ _ (onI_mono fun i q => ⟨q.1, q.2.1, hh _ q.2.2⟩) q, peW (pe_tupRg hc hg hm (prg_1 hg2 hm2 ha.pe hs) hs2) fun σ H Q ⟨e, G, bq, r, hh⟩ => ha.go r hh fun u q v H1 G1 r1 x1 d1 => by
    obtain ⟨j, rfl, q1, q2, q3⟩ := onI_out q
    cases d1
    have b1 := q1.lo
    have b2 := q1.hi
    have b3 := q2.le
    refine ⟨j, rfl, ⟨by omega, by omega, by omega, by omega, by rw [Int.sub_zero]; exact Nat.le_trans b3 (by decide)⟩, fun p hp => ?_⟩
    exact q3 _ _ _ (r1.new hp _) (x1.trans (nxt_laid (r1.gold hp) hp _)) (.tup upd_same ((rg_dats 0 j).mono (same_laid (r1.gold hp) _)))⟩
end
end Fd

set_option Elab.async false
set_option linter.all false
set_option maxRecDepth 100000
set_option maxHeartbeats 4000000
/-! Fd, part 1: the place of data in a list of data; a, b = [], y where a name is a cell. -/
namespace Fd
open PySem PySem.Spec PyProof.Rows L2
theorem Room.un65 {k : Nat} {A : Around} (r : Room k A) : A.units + 65 < cLine := by
  have := r.un
  omega
mutual
theorem Dat.dp {K : PySem.W.Frag} {H : Hp} : ∀ {v : V} {d : PyData}, Dat K H v d → d.plain = true → Dp K H v d
  | _, _, .non, _ => .non
  | _, _, .bl b, _ => .bl b
  | _, _, .int i, _ => .int i
  | _, _, .str x, _ => .str x
  | _, _, .lst h1 h2, p => .lst (.inl (.inl h1)) (Dats.dp h2 (by simp only [PyData.plain] at p; exact p))
  | _, _, .tup h1 h2, p => .tup (.inl (.inl h1)) (Dats.dp h2 (by simp only [PyData.plain] at p; exact p))
  | _, _, .dct _ _, p => by simp [PyData.plain] at p
theorem Dats.dp {K : PySem.W.Frag} {H : Hp} : ∀ {vs : List V} {ds : List PyData}, Dats K H vs ds → PyData.plainAll ds = true → DpAll K H vs ds
  | _, _, .nil, _ => .nil
  | _, _, .cons h t, p => by
    simp only [PyData.plainAll, Bool.and_eq_true] at p
    exact .cons (Dat.dp h p.1) (Dats.dp t p.2)
end
structure IxB (d : PyData) (ds : List PyData) : Prop where
  px : d.plain = true
  ps : PyData.plainAll ds = true
  la : d.canLay0 = true
  las : PyData.canLayAll0 ds = true
  dd : d.depth ≤ 60
  dds : PyData.depthAll ds ≤ 60
theorem IxB.sh {d : PyData} {ds : List PyData} (h : IxB d ds) : SeqAt.shaped d = true := by
  show (d.canLay0 && decide (d.depth ≤ 64)) = true
  rw [h.la, decide_eq_true (Nat.le_trans h.dd (by decide))]
  rfl
theorem IxB.shs {d : PyData} {ds : List PyData} (h : IxB d ds) : SeqAt.shaped (.list ds) = true := by
  show (PyData.canLay0 (.list ds) && decide (PyData.depth (.list ds) ≤ 64)) = true
  have h1 := h.dds
  rw [show PyData.canLay0 (.list ds) = true by simp only [PyData.canLay0]; exact h.las, decide_eq_true (by simp only [PyData.depth]; omega)]
  rfl
def placeD (ds : List PyData) (d : PyData) : Option Nat := ds.findIdx? fun z => PyData.eqv z d
section
variable {X : Cx} {B : Bs} {K : PySem.W.Frag} {a b : Expr} {m mb : M} {ml : ML} {mo : MO} {pos apos px py pt pt2 : Pos} {n n' : Str}
theorem xe_indexD (hu : X.A.units + 65 < cLine) (ha : XL X B a ml fa) (hi : XE X B b m fi) (h : ∀ {t t' : TE}, PE X a t → PE X b t' → PE X (.Call (.Attribute a "index" apos) [b] [] pos) (tBM X.K "list" (rIndexD X.K) t (tCons t' tNil))) :
    XE X B (.Call (.Attribute a "index" apos) [b] [] pos) (fun e Q => ml e fun k ds => k = .lst ∧ m e (onD fun d => IxB d ds ∧ ∃ j, placeD ds d = some j ∧ Q (.d (.int (j : Int))))) (sq fa fi) :=
  ⟨fun e P P' hh q => ha.mono e _ _ (fun k ds q => ⟨q.1, hi.mono e _ _ (onD_mono fun d ⟨c, j, q1, q2⟩ => ⟨c, j, q1, hh _ q2⟩) q.2⟩) q, peW (h ha.pe hi.pe) fun σ H Q ⟨e, G, bq, r, hh⟩ => ha.go r hh fun k ds q v H1 G1 r1 x1 d1 => by
    obtain ⟨rfl, q⟩ := q
    have d1' := d1
    obtain ⟨a1, vs, e1, s, dd⟩ := d1'
    refine ⟨by rw [e1]; exact .inl ⟨rfl, _, .inl (.inl s.1)⟩, hi.go r1 q fun u q w H2 G2 r2 x2 d2 => ?_⟩
    obtain ⟨d, rfl, c, j, q1, q2⟩ := onD_out q
    have l2 := sq_dat r2 (d1.mono x2.same x2.ext) (fun z => nomatch z)
    have dl : Dp X.K H2 (.ref a1) (.list ds) := by
      rw [e1] at l2
      cases l2 with
      | lst h1 h2 => exact .lst (.inl (.inl h1)) (h2.dp c.ps)
    have w2 : Dp X.K H2 w d := (Dat.mono r2.sub d2).dp c.px
    unfold placeD at q1
    rw [List.findIdx?_eq_some_iff_getElem] at q1
    obtain ⟨hj, p1, p2⟩ := q1
    refine ⟨a1, w, d, ds, j, ds[j], e1, rfl, dl, w2, c.shs, c.sh, List.getElem?_eq_getElem hj, p1, fun m z hm hz => ?_, q2 _ H2 G2 r2 (x1.trans x2) (.int _)⟩
    have hm2 : m < ds.length := by omega
    rw [List.getElem?_eq_getElem hm2] at hz
    cases hz
    exact Bool.eq_false_iff.mpr (p2 m hm)⟩
/-- a, b = [..], y by way of the tuple -/
theorem xs_parOEc (i j : Nat) {kt k2 : Nat} (ha : XO X B a mo fa) (hb : XE X B b mb fb)
    (h : ∀ {t t' : TE}, PE X a t → PE X b t' → PS X (.Assign [.Tuple [.Name n px, .Name n' py] kt pt] (.Tuple [a, b] k2 pt2) pos) (tAsg (tTup (tCons t (tCons t' tNil))) (gTup X.K 2 (gCons (gName i) (gCons (gName j) gNil))))) :
    XS X B (.Assign [.Tuple [.Name n px, .Name n' py] kt pt] (.Tuple [a, b] k2 pt2) pos) (mParOE i j mo mb) (sq fa fb) :=
  ⟨fun e k k' hh q => ha.mono e _ _ (fun u q => hb.mono e _ _ (fun w q => hh.nx _ q) q) q, psW (h ha.pe hb.pe) fun D σ H ⟨e, G, bq, r, q⟩ => show tMO X.K B mo fa σ H (fun x H1 => tM X.K B mb fb σ H1 fun y H2 => [x, y].length ≤ sizeLine ∧ ∀ p, H2 p = none → gTup X.K 2 (gCons (gName i) (gCons (gName j) gNil)) (.ref p) σ (upd H2 p (.tup [x, y])) D.nx) from ha.go r q fun ds q p vs H1 G1 r1 x1 n1 g1 h1 d1 => hb.go r1 q fun w q v2 H2 G2 r2 x2 d2 => by
    have np := r.nopot n1
    have g2 : G2 p = none := by
      cases z : G2 p with
      | none => rfl
      | some o =>
        rcases x2.grow p o z with t | t | t | ⟨xs, t⟩
        · rw [g1] at t; cases t
        · rw [h1] at t; cases t
        · exact absurd t np
        · have := (x2.ext p _ h1 np).symm.trans (r2.sub p o z)
          rw [t] at this; cases this
    refine ⟨by show 2 ≤ sizeLine; decide, fun p2 hp2 => ⟨p2, [.ref p, v2], rfl, .inl (.inl upd_same), rfl, _, _, rfl, _, _, rfl, rfl, ?_⟩⟩
    exact q _ _ G2 (((r2.storeO (x2.ext p _ h1 np) (d1.mono x2.same) g2 (r.old n1) np (rel_no r r2 n1) i).store d2 j).laid hp2 _) (x1.same.trans x2.same)⟩
end
end Fd

set_option Elab.async false
set_option linter.all false
set_option maxRecDepth 100000
set_option maxHeartbeats 4000000
/-! Fd, part 2: tuples of which one knows that they have no dict: their methods may be called. -/
namespace Fd
open PySem PySem.Spec PyProof.Rows L2
def onFz (Q : List PyData → Prop) : U → Prop
  | .fz ds => Q ds
  | _ => False
theorem onFz_mono {Q Q' : List PyData → Prop} (h : ∀ b, Q b → Q' b) : ∀ {u : U}, onFz Q u → onFz Q' u
  | .fz ds, q => h _ q
theorem onFz_out {Q : List PyData → Prop} : ∀ {u : U}, onFz Q u → ∃ ds, u = .fz ds ∧ Q ds
  | .fz ds, q => ⟨ds, rfl, q⟩
theorem onFz_f {Q : List PyData → Prop} {ds : List PyData} : onFz Q (.fz ds) = Q ds := rfl
section
variable {X : Cx}
/-- tuple(xs) of a list; its object is known -/
theorem call_ftup : CallR X (.type "tuple") (fun xs H Q => ∃ p ys, xs = [.ref p] ∧ SqL X.K H p ys ∧ ∀ l o, H l = none → o.cls = .type "tuple" → o.dict = none → Q (.ref l) (upd H l (.frz o (.tup ys)))) := by
  intro pins s σ H xs us Q I r h
  obtain ⟨p, ys, rfl, hq, q⟩ := h
  obtain ⟨u, rfl, rx⟩ := vals1 r
  cases rx
  obtain ⟨its, r', pl, hz⟩ := I.list hq
  have hlen := r'.length
  refine call_tuple_list pl.isList (fun h' kp => ?_) (by simp only [List.size_toArray] <;> omega)
  have I1 : Inv X pins σ H { s with heap := h' } := I.kept (t' := s.toks) kp
  have I2 : Inv X pins σ (upd H h'.objs.size (.frz { cls := .type "tuple", data := .seq its.toArray } (.tup ys))) { s with heap := h'.push { cls := .type "tuple", data := .seq its.toArray } } :=
    I1.laid (t' := s.toks) (fun b o e => Heap.get?_push_of_some _ e) (Nat.le_refl _) (show ObjOk X.prog X.w _ _ _ (.frz _ (.tup ys)) from ⟨Heap.get?_push_size _ rfl, hz, its, r', IsTup.new _ _⟩)
  exact ⟨.ref h'.objs.size, _, I2, rfl, q _ _ (I1.hok.fresh (Nat.le_refl _)) rfl rfl⟩
/-- the place of an int in a tuple of ints -/
def rIndexI (K : PySem.W.Frag) : V → List V → Hp → VK → Prop := fun x xs H Q => ∃ (p : Addr) (ys : List Int) (i : Int) (j : Nat), x = .ref p ∧ xs = [.int i] ∧ SqT K H p (ys.map V.int) ∧ ys[j]? = some i ∧ (∀ m, m < j → ys[m]? ≠ some i) ∧ Q (.int (j : Nat)) H
theorem flat_intsV (ys : List Int) : (ys.map V.int).all flatV = true := by
  rw [List.all_map]
  exact List.all_eq_true.mpr fun _ _ => rfl
theorem mt_tupIx : MtR X "tuple.index" (rIndexI X.K) := by
  intro pins s σ H x xs v us Q I rx rs h
  obtain ⟨p, ys, i, j, rfl, rfl, hq, hy, hno, q⟩ := h
  cases rx
  obtain ⟨u, rfl, t, rfl⟩ := vals1 rs
  obtain ⟨its, r, pl, hz⟩ := I.tuple hq
  obtain ⟨⟨cls, dd, dt, sl⟩, ho, hc, n, hd⟩ := pl
  simp only at hc hd
  subst hc
  subst hd
  have hl : its.toArray.size = ys.length := by rw [List.size_toArray, ← r.length, List.length_map]
  have hj : j < its.toArray.size := by rw [hl]; exact (List.getElem?_eq_some_iff.mp hy).1
  have at' : ∀ (m : Nat) (hm : m < its.toArray.size), ∃ y t', ys[m]? = some y ∧ its.toArray[m] = Value.int y t' := fun m hm => by
    have hm' : m < ys.length := by rw [← hl]; exact hm
    obtain ⟨w, hw, t', hw'⟩ := r.get (i := m) (x := .int ys[m]) (by simp [hm'])
    refine ⟨ys[m], t', List.getElem?_eq_getElem hm', ?_⟩
    have e := (List.getElem?_eq_some_iff.mp hw).2
    rw [← hw', ← e]
    simp
  refine call_meets PySem.F.slot_tuple_index ⟨_, ho, rfl⟩ PySem.F.entry_tuple_index (PySem.F.args_tuple_index_2 _ _) (TI.tuple_indexAt p its.toArray n dd sl (.int i t) (eqU (.int i)) j hj ?_ ?_)
    ⟨ho, fun w hw => mem_eqAt (x := .int i) ⟨t, rfl⟩ rfl r (flat_intsV ys) w (by simpa using hw), ⟨.int (j : Nat), H, I.tok _, ⟨_, rfl⟩, q⟩⟩
  · obtain ⟨y, t', h1, h2⟩ := at' j hj
    rw [hy] at h1
    cases h1
    rw [h2]
    show (i == i) = true
    exact beq_self_eq_true i
  · intro m hm hmj
    obtain ⟨y, t', h1, h2⟩ := at' m hm
    rw [h2]
    show (y == i) = false
    exact beq_eq_false_iff_ne.mpr fun e => hno m hmj (e ▸ h1)
/-- a method of a tuple without a dict -/
def tBMF (r : V → List V → Hp → VK → Prop) (to : TE) (t : TA) : TE := fun σ H Q => to σ H fun x H1 => (∃ p o u, x = .ref p ∧ H1 p = some (.frz o u) ∧ o.cls = .type "tuple" ∧ o.dict = none) ∧ t σ H1 fun xs H2 => r x xs H2 Q
theorem pe_bmF {o e : Expr} {es : List Expr} {to : TE} {t : TA} {name : Str} {apos cpos : Pos} {id : String} {r : V → List V → Hp → VK → Prop} (slot : Slot "tuple" name id) (hty : typeOf (.builtin id) = pure (.type "method_descriptor")) (hm : MtR X id r) (ho : PE X o to) (ha : PA X (e :: es) t)
    (hbase : attributeBase o name X.env (eval o X.env) = eval o X.env := by rfl)
    (hfew : ((backTo cpos (starEach (e :: es) X.env)).all (fun x => !x.1) && (backToKw cpos (keywordEach [] X.env)).all (fun x => x.1.isSome)
      && decide ((e :: es).length + ([] : List Keyword).length + (if ([] : List Keyword).isEmpty then 0 else 1) < 30)) = true := by rfl)
    (hline : (apos.endLine == cpos.line) = true := by rfl) (hs : starEach (e :: es) X.env = (false, eval e X.env) :: starEach es X.env := by rfl) (hplain : (backTo cpos (starEach es X.env)).any (·.1) = false := by rfl) :
    PE X (.Call (.Attribute o name apos) (e :: es) [] cpos) (tBMF r to t) := by
  refine ⟨fun pins s σ H Q I h => ?_⟩
  refine wpAny_Call_method_late hbase hfew hline rfl (thn (ho.run pins s σ H _ I h) fun v s1 ⟨x, H1, I1, r1, ⟨p, ob, u, ex, hp, hc, hd⟩, q1⟩ => ?_)
  subst ex
  have r0 := r1
  cases r1
  have hob : s1.heap.get? p = some ob := (I1.hok p _ hp).1
  refine ⟨"tuple", id, PySem.F.plainAttrs_tuple, slot, hty, ⟨ob, hob, hc⟩, fun a ea => ?_, ?_⟩
  · cases ea
    exact ⟨ob, hob, hd⟩
  · have hA := ha.run cpos pins s1 σ H1 _ I1 q1
    rw [hs] at hA ⊢
    refine Calls.callWith_builtin (by show (false || (backTo cpos (starEach es X.env)).any (·.1)) = false; rw [hplain] <;> rfl) (Calls.evalArgs_plain ?_)
    exact thn hA fun us s2 ⟨vs, H2, I2, r2, q2⟩ => hm pins s2 σ H2 _ vs _ us Q I2 r0 r2 q2
end
section
variable {X : Cx} {B : Bs} {K : PySem.W.Frag} {a b tg x : Expr} {m mb : M} {ml : ML} {p pos apos : Pos}
theorem xe_ftuple (ha : XL X B a ml fa) (hm : X.mg "tuple" = none) (hg : Gl X "tuple" := by rfl) (hs : starEach [a] X.env = (false, eval a X.env) :: starEach [] X.env := by rfl) (hpl : (backTo pos (starEach [] X.env)).any (·.1) = false := by rfl) :
    XE X B (.Call (.Name "tuple" p) [a] [] pos) (fun e Q => ml e fun k ds => k = .lst ∧ Q (.fz ds)) fa :=
  ⟨fun e P P' h q => ha.mono e _ _ (fun k ds q => ⟨q.1, h _ q.2⟩) q, peW (pe_callTy call_ftup hg hm (by decide +kernel) (one_arg ha.pe hs) (he := hs) (hpl := hpl)) fun σ H Q ⟨e, G, bq, r, h⟩ => ha.go r h fun k ds q v H1 G1 r1 x1 d1 => by
    obtain ⟨rfl, q⟩ := q
    obtain ⟨a, vs, rfl, sq, dd⟩ := d1
    exact ⟨a, vs, rfl, .inl (.inl sq.1), fun p o hp hc hd => q _ _ _ (r1.new hp _) (x1.trans (nxt_laid (r1.gold hp) hp _)) ⟨p, o, vs, rfl, upd_same, ⟨hc, hd⟩, dd.mono (same_laid (r1.gold hp) _)⟩⟩⟩
theorem xe_lenF (ha : XE X B a m fa) (hm : X.mg "len" = none) (hg : Gl X "len" := by rfl) (hs : starEach [a] X.env = (false, eval a X.env) :: starEach [] X.env := by rfl) (hpl : (backTo pos (starEach [] X.env)).any (·.1) = false := by rfl) :
    XE X B (.Call (.Name "len" p) [a] [] pos) (fun e Q => m e (onFz fun ds => Q (.d (.int ds.length)))) fa :=
  ⟨fun e P P' h q => ha.mono e _ _ (fun u q => onFz_mono (fun _ q => h _ q) q) q, peW (pe_callB call_len_seq hg hm (by decide +kernel) (one_arg ha.pe hs) (he := hs) (hpl := hpl)) fun σ H Q ⟨e, G, bq, r, h⟩ => ha.go r h fun u q v H1 G1 r1 x1 d1 => by
    obtain ⟨ds, rfl, q⟩ := onFz_out q
    obtain ⟨a, o, vs, rfl, sq, _, dd⟩ := d1
    refine ⟨a, vs, rfl, .inr (.inl (.inr ⟨o, r1.sub _ _ sq⟩)), ?_⟩
    rw [dd.len]
    exact q _ H1 G1 r1 x1 (.int _)⟩
theorem xi_fz (h : XE X B x m f) : XI X B tg x (fun e Q => m e (onFz Q)) f :=
  ⟨fun e P P' hh q => h.mono e _ _ (fun u q => onFz_mono (fun _ q => hh _ q) q) q, piW (pi_seq h.pe) fun σ H R ⟨e, G, bq, r, hh⟩ => h.go r hh fun u q v H1 G1 r1 x1 d1 => by
    obtain ⟨ds, rfl, q⟩ := onFz_out q
    obtain ⟨a, o, vs, e1, sq, _, dd⟩ := d1
    have sg : ∀ H', Ext B.pt H1 H' → H' a = some (.frz o (.tup vs)) := fun H' x => x a _ (r1.sub _ _ sq) fun hp => by
      rw [r1.gpot _ hp] at sq; cases sq
    have w : ∀ H', Ext B.pt H1 H' → SqT X.K H' a vs := fun H' x => .inl (.inr ⟨o, sg H' x⟩)
    exact ⟨a, e1, .inr ⟨⟨vs, w H1 .refl⟩, q _ H1 G1 r1 x1 (wk_tup w dd)⟩⟩⟩
theorem xe_indexF (ha : XE X B a m fa) (hi : XE X B b mb fi) (h : ∀ {t t' : TE}, PE X a t → PE X b t' → PE X (.Call (.Attribute a "index" apos) [b] [] pos) (tBMF (rIndexI X.K) t (tCons t' tNil))) :
    XE X B (.Call (.Attribute a "index" apos) [b] [] pos) (fun e Q => m e (onFz (onIs fun ns => mb e (onI fun i => ∃ j, placeOf ns i = some j ∧ Q (.d (.int (j : Int))))))) (sq fa fi) :=
  ⟨fun e P P' hh q => ha.mono e _ _ (fun u q => onFz_mono (fun ds q => onIs_mono (fun ns q => hi.mono e _ _ (onI_mono fun i ⟨j, q1, q2⟩ => ⟨j, q1, hh _ q2⟩) q) ds q) q) q, peW (h ha.pe hi.pe) fun σ H Q ⟨e, G, bq, r, hh⟩ => ha.go r hh fun u q v H1 G1 r1 x1 d1 => by
    obtain ⟨ds, rfl, q⟩ := onFz_out q
    obtain ⟨ns, rfl, q5⟩ := onIs_out q
    obtain ⟨a1, o, vs, e1, sq, c, dd⟩ := d1
    have ev := dd.ints
    subst ev
    refine ⟨⟨a1, o, _, e1, r1.sub _ _ sq, c.1, c.2⟩, hi.go r1 q5 fun u q w H2 G2 r2 x2 d2 => ?_⟩
    obtain ⟨i, rfl, j, q1, q2⟩ := onI_out q
    cases d2
    unfold placeOf at q1
    rw [List.findIdx?_eq_some_iff_getElem] at q1
    obtain ⟨hj, p1, p2⟩ := q1
    refine ⟨a1, ns, i, j, e1, rfl, .inl (.inr ⟨o, r2.sub _ _ (x2.same _ _ sq)⟩), ?_, fun m hm z => ?_, q2 _ H2 G2 r2 (x1.trans x2) (.int _)⟩
    · rw [List.getElem?_eq_getElem hj]
      exact congrArg some (eq_of_beq p1)
    · have hm2 : m < ns.length := by omega
      rw [List.getElem?_eq_getElem hm2] at z
      injection z with z
      exact p2 m hm (by rw [z]; exact beq_self_eq_true i)⟩
/-- a, b = x, y by way of the tuple, whatever x and y are -/
theorem xs_parc (i j : Nat) {kt k2 : Nat} {n n' : Str} {px py pt pt2 : Pos} (ha : XE X B a m fa) (hb : XE X B b mb fb)
    (h : ∀ {t t' : TE}, PE X a t → PE X b t' → PS X (.Assign [.Tuple [.Name n px, .Name n' py] kt pt] (.Tuple [a, b] k2 pt2) pos) (tAsg (tTup (tCons t (tCons t' tNil))) (gTup X.K 2 (gCons (gName i) (gCons (gName j) gNil))))) :
    XS X B (.Assign [.Tuple [.Name n px, .Name n' py] kt pt] (.Tuple [a, b] k2 pt2) pos) (mPar i j m mb) (sq fa fb) :=
  ⟨fun e k k' hh q => ha.mono e _ _ (fun u q => hb.mono e _ _ (fun w q => hh.nx _ q) q) q, psW (h ha.pe hb.pe) fun D σ H ⟨e, G, bq, r, q⟩ => show tM X.K B m fa σ H (fun x H1 => tM X.K B mb fb σ H1 fun y H2 => [x, y].length ≤ sizeLine ∧ ∀ p, H2 p = none → gTup X.K 2 (gCons (gName i) (gCons (gName j) gNil)) (.ref p) σ (upd H2 p (.tup [x, y])) D.nx) from ha.go r q fun u q v H1 G1 r1 x1 d1 => hb.go r1 q fun w q v2 H2 G2 r2 x2 d2 => by
    refine ⟨by show 2 ≤ sizeLine; decide, fun p2 hp2 => ⟨p2, [v, v2], rfl, .inl (.inl upd_same), rfl, _, _, rfl, _, _, rfl, rfl, ?_⟩⟩
    exact q _ _ G2 (((r2.store (d1.mono x2.same) i).store d2 j).laid hp2 _) (x1.same.trans x2.same)⟩
end
end Fd

set_option Elab.async false
set_option linter.all false
set_option maxRecDepth 100000
set_option maxHeartbeats 4000000
/-! Fd, part 3: xs[i] += e of one's own list; x += e; lists made by * and + as one's own. -/
namespace Fd
open PySem PySem.Spec PyProof.Rows L2
section
variable {X : Cx} {B : Bs} {K : PySem.W.Frag} {a b i : Expr} {m mi mb ma me : M} {pos apos p : Pos} {n : Str}
/-- xs[i], by values -/
theorem get_list : PGet X (rIxL X.K) := by
  intro pins s σ H x y v u Q I rx ry h
  obtain ⟨p, xs, i, z, rfl, rfl, hq, he, q⟩ := h
  cases rx
  obtain ⟨t, rfl⟩ := ry
  obtain ⟨its, r, pl, hz⟩ := I.list hq
  obtain ⟨j, h1, h2, h3, h4, h5⟩ := atI_get he
  obtain ⟨w, ew, rw'⟩ := r.get h2
  have hl := r.length
  have hn := line63
  have fin : EP X pins σ Q w s := ⟨z, H, I, rw', q⟩
  by_cases h0 : 0 ≤ i
  · have hj : i.toNat = j := by
      rw [seqIndex_of h0 h5] at h1
      exact Option.some.inj h1
    exact wpAny_getItem_list pl.isList h0 (by omega) (by rw [hj]; simpa using ew) fin
  · have hj : (i + (its.toArray.size : Int)).toNat = j := by
      rw [seqIndex_neg (by omega) h4] at h1
      rw [List.size_toArray, ← hl]
      exact Option.some.inj h1
    exact wpAny_getItem_list_neg pl.isList (by omega) (by rw [List.size_toArray] <;> omega) (by omega) (by rw [hj]; simpa using ew) fin
/-- xs[i] += e -/
def mAugI (f : Int → Int → Int) (j : Nat) (mi me : M) : MS := fun e k => onOwn e[j]? fun ds => mi e (onI fun i => ∃ q z, ixN ds.length i = some q ∧ ds[q]? = some (.int z) ∧ me e (onI fun w => k.nx (e.set j (some (.own (ds.set q (.int (f z w))))))))
theorem xs_augI (j : Nat) {f : Int → Int → Int} {op : Operator} {spos tpos : Pos} (hp : PIp X op (ipI f)) (hi : XE X B i mi fi) (he : XE X B a me fe) (hN : X.N[j]? = some n := by rfl)
    (hv : Vis X.env.scope n := by first | exact Or.inl rfl | exact Or.inr (Or.inl rfl) | exact Or.inr (Or.inr rfl)) (hd : (n == ("__debug__" : Str)) = false := by decide) (hcd : (n == ("__classdict__" : Str)) = false := by decide)
    (haS : ∀ ov iv new, augStore i ov iv new = (do holding [new, ov, iv] (setItem ov iv new); release [new, ov, iv] []; pure .next) := by intros; rfl) :
    XS X B (.AugAssign (.Subscript (.Name n p) i tpos) op a spos) (mAugI f j mi me) (sq fi fe) :=
  ⟨fun e k k' hh q => onOwn_mono (fun ds q => hi.mono e _ _ (onI_mono fun i ⟨q1, z, h1, h2, h3⟩ => ⟨q1, z, h1, h2, he.mono e _ _ (onI_mono fun w q => hh.nx _ q) h3⟩) q) q, psW (ps_augS (pe_var hN hv hd hcd) hi.pe get_list he.pe hp set_list haS) fun D σ H ⟨e, G, bq, r, q⟩ => by
    obtain ⟨ds, he0, q⟩ := onOwn_out q
    obtain ⟨l, vs, h1, h2, h3, ty⟩ := ownTy r he0
    refine ⟨.ref l, h1, hi.go r q fun u q v H1 G1 r1 x1 d1 => ?_⟩
    obtain ⟨i, rfl, q1, z, k1, k2, q⟩ := onI_out q
    cases d1
    obtain ⟨l1, vs1, a1, a2, a3, _⟩ := ownTy r1 he0
    rw [h1] at a1; cases a1
    obtain ⟨w0, w1, w2⟩ := a3.get k2
    cases w2
    refine ⟨l, vs1, i, .int z, rfl, rfl, .inl (.inl a2), ?_, he.go r1 q fun u q v H2 G2 r2 x2 d2 => ?_⟩
    · unfold atI
      rw [a3.len, k1]
      exact w1
    obtain ⟨w, rfl, q⟩ := onI_out q
    cases d2
    obtain ⟨l2, vs2, b1, b2, b3, _⟩ := ownTy r2 he0
    rw [h1] at b1; cases b1
    refine ⟨z, w, rfl, rfl, l, vs2, i, q1, rfl, rfl, b2, by rw [b3.len]; exact k1, ?_⟩
    exact q σ _ G2 (r2.change he0 h1 (b3.set (.int (f z w)) q1)) (x1.same.trans x2.same)⟩
/-- x += e of ints -/
def mAugN (f : Int → Int → Int) (j : Nat) (me : M) : MS := fun e k => getV e[j]? (onI fun z => me e (onI fun w => k.nx (e.set j (some (.val (.d (.int (f z w))))))))
theorem xs_augN (j : Nat) {f : Int → Int → Int} {op : Operator} {spos tpos : Pos} (hN : X.N.Nodup) (hp : PIp X op (ipI f)) (he : XE X B a me fe) (hi : X.N[j]? = some n := by rfl) (hx : Loc X.env.scope n := by first | exact .inl rfl | exact .inr rfl)
    (hf : X.fn n = true ∨ X.env.scope.names.lookup n = some .local := by first | exact .inl rfl | exact .inr rfl) :
    XS X B (.AugAssign (.Name n tpos) op a spos) (mAugN f j me) fe :=
  ⟨fun e k k' hh q => getV_mono (fun u q => onI_mono (fun z q => he.mono e _ _ (onI_mono fun w q => hh.nx _ q) q) u q) q, psW (ps_aug hN hi hx he.pe hp hf) fun D σ H ⟨e, G, bq, r, q⟩ => by
    obtain ⟨u, he0, q⟩ := getV_out q
    obtain ⟨z, rfl, q⟩ := onI_out q
    obtain ⟨v, h1, h2⟩ := r.val j _ he0
    cases h2
    refine ⟨.int z, h1, he.go r q fun u q v H2 G2 r2 x2 d2 => ?_⟩
    obtain ⟨w, rfl, q⟩ := onI_out q
    cases d2
    exact ⟨z, w, rfl, rfl, q _ H2 G2 (r2.store (u := .d (.int (f z w))) (.int (f z w)) j) x2.same⟩⟩
/-- a new list: xs * n -/
def gRepO (u w : U) (Q : List PyData → Prop) : Prop := match u, w with
  | .d (.list ds), .d (.int k) => RepB ds.length k ∧ Q (List.replicate k.toNat ds).flatten
  | _, _ => False
theorem gRepO_out {u w : U} {Q : List PyData → Prop} (q : gRepO u w Q) : ∃ ds k, u = .d (.list ds) ∧ w = .d (.int k) ∧ RepB ds.length k ∧ Q (List.replicate k.toNat ds).flatten := by
  unfold gRepO at q
  split at q
  · exact ⟨_, _, rfl, rfl, q⟩
  · exact q.elim
theorem gRepO_l {ds : List PyData} {k : Int} {Q : List PyData → Prop} : gRepO (.d (.list ds)) (.d (.int k)) Q = (RepB ds.length k ∧ Q (List.replicate k.toNat ds).flatten) := rfl
theorem xo_rep (ha : XE X B a ma fa) (hb : XE X B b mb fb) : XO X B (.BinOp a .Mult b pos) (fun e Q => ma e fun u => mb e fun w => gRepO u w Q) (sq fa fb) :=
  ⟨fun e P P' hh q => ha.mono e _ _ (fun u q => hb.mono e _ _ (fun w q => by
    obtain ⟨ds, k, rfl, rfl, c, q⟩ := gRepO_out q
    exact ⟨c, hh _ q⟩) q) q, peW (pe_op op_rep ha.pe hb.pe) fun σ H Q ⟨e, G, bq, r, hh⟩ => ha.go r hh fun u q v H1 G1 r1 x1 d1 => hb.go r1 q fun w q v2 H2 G2 r2 x2 d2 => by
    obtain ⟨ds, k, rfl, rfl, c, q⟩ := gRepO_out q
    have d1' := Dat.mono x2.same d1
    cases d2
    cases d1' with
    | @lst a xs _ h1 h2 =>
      refine ⟨a, k, xs, rfl, rfl, r2.sub _ _ h1, c.lo, c.hi, by rw [h2.len]; exact le_line c.le, fun p hp => ?_⟩
      exact q p _ _ _ (r2.laid hp _) (x1.trans (x2.trans (nxt_only hp _))) (ext_both (x1.trans x2).ext hp (r2.nopot hp)) (r2.gold hp) upd_same (h2.rep _)⟩
/-- a new list: xs + ys -/
def gCatO (u w : U) (Q : List PyData → Prop) : Prop := match u, w with
  | .d (.list ds), .d (.list es) => Fits (ds.length + es.length) ∧ Q (ds ++ es)
  | _, _ => False
theorem gCatO_out {u w : U} {Q : List PyData → Prop} (q : gCatO u w Q) : ∃ ds es, u = .d (.list ds) ∧ w = .d (.list es) ∧ Fits (ds.length + es.length) ∧ Q (ds ++ es) := by
  unfold gCatO at q
  split at q
  · exact ⟨_, _, rfl, rfl, q⟩
  · exact q.elim
theorem gCatO_l {ds es : List PyData} {Q : List PyData → Prop} : gCatO (.d (.list ds)) (.d (.list es)) Q = (Fits (ds.length + es.length) ∧ Q (ds ++ es)) := rfl
theorem xo_cat (ha : XE X B a ma fa) (hb : XE X B b mb fb) : XO X B (.BinOp a .Add b pos) (fun e Q => ma e fun u => mb e fun w => gCatO u w Q) (sq fa fb) :=
  ⟨fun e P P' hh q => ha.mono e _ _ (fun u q => hb.mono e _ _ (fun w q => by
    obtain ⟨ds, k, rfl, rfl, c, q⟩ := gCatO_out q
    exact ⟨c, hh _ q⟩) q) q, peW (pe_op op_cat ha.pe hb.pe) fun σ H Q ⟨e, G, bq, r, hh⟩ => ha.go r hh fun u q v H1 G1 r1 x1 d1 => hb.go r1 q fun w q v2 H2 G2 r2 x2 d2 => by
    obtain ⟨ds, k, rfl, rfl, c, q⟩ := gCatO_out q
    have d1' := Dat.mono x2.same d1
    cases d2 with
    | @lst a2 ys _ h3 h4 =>
    cases d1' with
    | @lst a xs _ h1 h2 =>
      refine ⟨a, a2, xs, ys, rfl, rfl, r2.sub _ _ h1, r2.sub _ _ h3, by rw [h2.len, h4.len]; exact le_line c.le, fun p hp => ?_⟩
      exact q p _ _ _ (r2.laid hp _) (x1.trans (x2.trans (nxt_only hp _))) (ext_both (x1.trans x2).ext hp (r2.nopot hp)) (r2.gold hp) upd_same (h2.app h4)⟩
/-- xs[::-1] of a list -/
theorem xo_revL {ml : ML} {k : Nat} {p1 p2 p3 : Pos} (ha : XL X B a ml fa) : XO X B (.Subscript a (.Slice none none (some (.UnaryOp .USub (.Constant (.int 1) k p1) p2)) p3) pos) (fun e Q => ml e fun kd ds => match kd with
    | .tup => False
    | _ => Q ds.reverse) fa :=
  ⟨fun e P P' h q => ha.mono e _ _ (fun kd ds q => by
    cases kd with
    | tup => exact q
    | lst => exact h _ q
    | scr => exact h _ q) q, peW (pe_revL ha.pe) fun σ H Q ⟨e, G, bq, r, h⟩ => ha.go r h fun kd ds q v H1 G1 r1 x1 d1 => by
    obtain ⟨a, vs, rfl, sq, dd⟩ := d1
    cases kd with
    | tup => exact q.elim
    | lst => exact ⟨a, vs, rfl, .inl (.inl sq.1), fun p hp => q p _ _ _ (r1.laid hp _) (x1.trans (nxt_only hp _)) (ext_both x1.ext hp (r1.nopot hp)) (r1.gold hp) upd_same dd.rev⟩
    | scr => exact ⟨a, vs, rfl, (r1.sub.seq sq), fun p hp => q p _ _ _ (r1.laid hp _) (x1.trans (nxt_only hp _)) (ext_both x1.ext hp (r1.nopot hp)) (r1.gold hp) upd_same dd.rev⟩⟩
end
theorem gIx_at {ds : List PyData} {i : Int} {d : PyData} {Q : U → Prop} (e : atI ds i = some d) : gIx ds (.d (.int i)) Q = Q (.d d) := by
  unfold gIx
  simp only [e]
theorem gIx_0 {d : PyData} {ds : List PyData} {Q : U → Prop} : gIx (d :: ds) (.d (.int 0)) Q = Q (.d d) := gIx_at (atI_nat (n := 0) rfl rfl)
theorem gIx_1 {d a : PyData} {ds : List PyData} {Q : U → Prop} : gIx (a :: d :: ds) (.d (.int 1)) Q = Q (.d d) := gIx_at (atI_nat (n := 1) rfl rfl)
theorem gIx_2 {d a b : PyData} {ds : List PyData} {Q : U → Prop} : gIx (a :: b :: d :: ds) (.d (.int 2)) Q = Q (.d d) := gIx_at (atI_nat (n := 2) rfl rfl)
theorem allD_nil : allD [] = some [] := rfl
theorem allD_cons {d : PyData} {us : List U} : allD (.d d :: us) = (allD us).map fun ds => d :: ds := rfl
section
variable {X : Cx} {B : Bs}
/-- a, b, c = x, y, z -/
def mPar3 (i j l : Nat) (ma mb mc : M) : MS := fun e k => ma e fun u => mb e fun w => mc e fun z => k.nx (((e.set i (some (.val u))).set j (some (.val w))).set l (some (.val z)))
theorem xs_par3 (i j l : Nat) {n n' n'' : Str} {px py pz pt pt2 pos : Pos} {kt k2} {a b c : Expr} {ma mb mc : M} {fa fb fc : Cst} (hN : X.N.Nodup) (ha : XE X B a ma fa) (hb : XE X B b mb fb) (hc : XE X B c mc fc)
    (h : ∀ {t t' t'' : TE}, PE X a t → PE X b t' → PE X c t'' → PS X (.Assign [.Tuple [.Name n px, .Name n' py, .Name n'' pz] kt pt] (.Tuple [a, b, c] k2 pt2) pos) (tPar3 i j l (tCons t (tCons t' (tCons t'' tNil))))) :
    XS X B (.Assign [.Tuple [.Name n px, .Name n' py, .Name n'' pz] kt pt] (.Tuple [a, b, c] k2 pt2) pos) (mPar3 i j l ma mb mc) (sq fa (sq fb fc)) :=
  ⟨fun e k k' hh q => ha.mono e _ _ (fun u q => hb.mono e _ _ (fun w q => hc.mono e _ _ (fun z q => hh.nx _ q) q) q) q, psW (h ha.pe hb.pe hc.pe) fun D σ H ⟨e, G, bq, r, q⟩ => ha.go r q fun u q v H1 G1 r1 x1 d1 => hb.go r1 q fun w q v2 H2 G2 r2 x2 d2 => hc.go r2 q fun z q v3 H3 G3 r3 x3 d3 =>
    ⟨v, v2, v3, rfl, q _ H3 G3 (((r3.store (d1.mono (x2.same.trans x3.same)) i).store (d2.mono x3.same) j).store d3 l) (x1.same.trans (x2.same.trans x3.same))⟩⟩
/-- (a, b, ..) = a list of that length -/
def mgUnl (n : Nat) (mr : MGs) : MG := fun u e Q => match u with
  | .d (.list ds) => ds.length = n ∧ mr ds e Q
  | _ => False
theorem xg_unl {ts : List Expr} {k n : Nat} {pos : Pos} {js : List Nat} {mr : MGs} (h2 : XGs X B ts js mr) (hn : (assignEach ts X.env).length = n := by rfl) (hst : (assignEach ts X.env).findIdx? (·.1) = none := by rfl) (hc : X.calm = true := by rfl) : XG X B (.Tuple ts k pos) js (mgUnl n mr) :=
  ⟨fun u e P P' hh q => (by
    unfold mgUnl at q ⊢
    split at q
    · exact ⟨q.1, h2.mono _ _ _ _ hh q.2⟩
    · cases q), pgW (pg_unl hc h2.pg hn hst) fun v σ H Q ⟨e, G, dd, u, r, d, q⟩ => by
    unfold mgUnl at q
    split at q
    · cases d with
      | lst s t => exact ⟨_, _, rfl, .inl (.inl (r.sub _ _ s)), by rw [t.len]; exact q.1, e, G, _, _, r, t, q.2⟩
    · cases q⟩
theorem mgUnl_l {n : Nat} {mr : MGs} {ds : List PyData} {e : En} {Q : En → Prop} : mgUnl n mr (.d (.list ds)) e Q = (ds.length = n ∧ mr ds e Q) := rfl
end
end Fd

set_option Elab.async false
set_option linter.all false
set_option maxRecDepth 100000
set_option maxHeartbeats 4000000
/-! Fd, part 4: list(reversed(xs)). -/
namespace Fd
open PySem PySem.Spec PyProof.Rows L2 RT
section
variable {prog : Program} {w : World} {A : Around} {E : Value → Shared → Prop} {s : Shared}
theorem extend_rev {R : Result → Shared → Prop} {it l : Addr} {items : Array Value} (hh : A.handled = none) (hit : s.heap.IsRevIter it l ((items.size : Int) - 1)) (hl : s.heap.IsList l items) (hne : l ≠ it) (hn : items.size ≤ sizeLine)
    (S : Addr) (res : Value) (c₀ : Nat) (hSi : S ≠ it) (hSl : S ≠ l) (hS : s.heap.get? S = some { cls := .type "list", data := .seq #[] c₀ })
    (hR : ∀ s' acc' c', Moved [S, it] (fun a b => b = a) s s' → s'.heap.get? S = some { cls := .type "list", dict := none, data := .seq acc' c', slots := #[] } → ItemsOf (fun i v => items[items.size - 1 - i]? = some v) acc' items.size → R (.ok (.ret res)) s') :
    wpAny (model prog w) A.in1 (Builtin.List.listExtendWith (.ref S) (.ref it) res)
      (fun fin s' => match fin with | .done f => R (.ok f) s' | .again c' => c'.quiet = true ∧ codeAny (model prog w) A c' R s') (fun e s' => R (.error e) s') s := by
  have W := (Walks.listRev (prog := prog) (w := w) (A := A.in1) hh it l hne items).toS
  have hSf : S ∉ [it, l] := by simp only [List.mem_cons, List.not_mem_nil, or_false, not_or]; exact ⟨hSi, hSl⟩
  have hT : s.TypeIs (.ref it) "list_reverseiterator" := Heap.IsRevIter.typeIs hit
  have h1 : Builtin.List.listSameRef (.ref S) (.ref it) = false := by simp [Builtin.List.listSameRef, hSi]
  unfold Builtin.List.listExtendWith
  refine wpAny_bind (wpAny_typeOf hT ?_)
  rw [if_neg (by rw [h1]; decide)]
  refine wpAny_bind (wpAny_pyIter_revIter hit ?_)
  refine wpAny_bind (wpAny_holding ?_)
  unfold Builtin.List.listLengthHint
  refine wpAny_bind (wpAny_specialOf hT nolen_lri ?_)
  show wpAny _ A.in1 (specialOf (Value.ref it) (Str.ofString "__length_hint__") >>= _) _ _ _
  refine wpAny_bind (wpAny_specialOf hT hint_lri ?_)
  generalize hid : ("list_reverseiterator.__length_hint__" : String) = id0
  wp_delta
  rw [show splitId id0 = some ("list_reverseiterator", "__length_hint__") from by subst hid; decide +kernel]
  subst hid
  refine wpAny_bind (wpAny_isInstance (b := true) hT (by rw [isSubtype_type]; kernel_rfl) ?_)
  refine wpAny_pure ?_
  rw [if_neg (by decide)]
  have e0 : ((items.size : Nat) : Int) - 1 - ((0 : Nat) : Int) = (items.size : Int) - 1 := by omega
  refine wpAny_pure ⟨plainId_quiet F.plain_extend_loop _, codeAny_extend_loopS W hn _ hSf _ items.size 0 _ _ _ rfl (Nat.zero_le _) ⟨Nat.zero_le _, by rw [e0]; exact hit, hl⟩ hS (ItemsOf.nil _) fun s' acc' c' hm hS' hacc => ?_⟩
  exact hR s' acc' c' hm hS' hacc
theorem init_rev {R : Result → Shared → Prop} {it l : Addr} {items : Array Value} (hh : A.handled = none) (hit : s.heap.IsRevIter it l ((items.size : Int) - 1)) (hl : s.heap.IsList l items) (hne : l ≠ it) (hn : items.size ≤ sizeLine)
    (S : Addr) (hSi : S ≠ it) (hSl : S ≠ l) (hS : s.heap.get? S = some { cls := .type "list", data := .seq #[] })
    (hR : ∀ s' acc' c', Moved [S, it] (fun a b => b = a) s s' → s'.heap.get? S = some { cls := .type "list", dict := none, data := .seq acc' c', slots := #[] } → ItemsOf (fun i v => items[items.size - 1 - i]? = some v) acc' items.size → R (.ok (.ret .none)) s') :
    wpAny (model prog w) A.in1 (Builtin.«list.__init__» ⟨[.ref S, .ref it], []⟩)
      (fun fin s' => match fin with | .done f => R (.ok f) s' | .again c' => c'.quiet = true ∧ codeAny (model prog w) A c' R s') (fun e s' => R (.error e) s') s := by
  show wpAny _ A.in1 (do let old ← Builtin.List.listItems (.ref S); Builtin.List.listUpdate (.ref S) (fun _ => #[]); letGo old.toList.reverse; Builtin.List.listExtendWith (.ref S) (.ref it) .none) _ _ s
  refine wpAny_bind ?_
  unfold Builtin.List.listItems
  refine wpAny_bind (wpAny_seqItems hS rfl (wpAny_pure ?_))
  show wpAny _ A.in1 (updateSeq S (fun _ => #[]) >>= fun _ => letGo (#[] : Array Value).toList.reverse >>= fun _ => Builtin.List.listExtendWith (.ref S) (.ref it) .none) _ _ s
  refine wpAny_bind (wpAny_updateSeq hS rfl ?_)
  have hS₂ := Heap.get?_update_self (Obj.mapSeq (fun _ => (#[] : Array Value))) hS rfl
  have oth : ∀ b o, b ≠ S → s.heap.get? b = some o → (s.heap.update S (Obj.mapSeq (fun _ => (#[] : Array Value)))).get? b = some o :=
    fun b o hb e => (Heap.get?_update_other _ _ (Ne.symm hb)).trans e
  refine wpAny_bind (wpAny_letGo ?_)
  have hit2 : (s.heap.update S (Obj.mapSeq (fun _ => (#[] : Array Value)))).IsRevIter it l ((items.size : Int) - 1) := hit.at fun o e => oth it o (Ne.symm hSi) e
  have hl2 : (s.heap.update S (Obj.mapSeq (fun _ => (#[] : Array Value)))).IsList l items := by
    obtain ⟨o, e, x⟩ := id hl
    exact ⟨o, oth l o (Ne.symm hSl) e, x⟩
  have W := (Walks.listRev (prog := prog) (w := w) (A := A.in1) hh it l hne items).toS
  refine extend_rev (s := { s with heap := s.heap.update S (Obj.mapSeq (fun _ => (#[] : Array Value))) }) hh hit2 hl2 hne hn S .none _ hSi hSl hS₂ fun s' acc' c' hm hS' hacc => ?_
  have m1 : Moved [S, it] (fun a b => b = a) s { s with heap := s.heap.update S (Obj.mapSeq (fun _ => (#[] : Array Value))) } := (Moved.refl (wr := [S, it]) (G := fun a b => b = a) fun _ => rfl).then_heap (Nat.le_refl _) fun b o hb e => oth b o (fun h => hb (by rw [h]; exact List.mem_cons_self)) e
  exact hR s' acc' c' (Moved.trans W.gtrans m1 hm) hS' hacc
theorem call_list_rev {Q : Value → Shared → Prop} {it l : Addr} {items : Array Value} (hh : A.handled = none) (hit : s.heap.IsRevIter it l ((items.size : Int) - 1)) (hl : s.heap.IsList l items) (hne : l ≠ it) (hn : items.size ≤ sizeLine)
    (hQ : ∀ (h' : Heap) (tk : Nat) (acc' : Array Value) (c' : Nat), (∀ b o, b ≠ it → s.heap.get? b = some o → h'.get? b = some o) → h'.get? s.heap.objs.size = some { cls := .type "list", dict := none, data := .seq acc' c', slots := #[] } →
      ItemsOf (fun i v => items[items.size - 1 - i]? = some v) acc' items.size → Q (.ref s.heap.objs.size) { s with heap := h', toks := tk }) :
    wpAny (model prog w) A (call (.type "list") [.ref it]) Q E s := by
  obtain ⟨oi, hoi, _⟩ := id hit
  obtain ⟨ol, hol, _⟩ := id hl
  have hSi : s.heap.objs.size ≠ it := Nat.ne_of_gt (Heap.lt_size hoi)
  have hSl : s.heap.objs.size ≠ l := Nat.ne_of_gt (Heap.lt_size hol)
  refine callType_codes (Q₁ := fun obj s₁ => obj = .ref s.heap.objs.size ∧ s₁ = { s with heap := s.heap.push { cls := .type "list", data := .seq #[] } }) F.called_list (F.typeCall_list_1 _) F.entry_list_init
    (code_list_new _ ⟨rfl, rfl⟩) fun obj s₁ h₁ => ?_
  obtain ⟨rfl, rfl⟩ := h₁
  have hS : (s.heap.push { cls := .type "list", data := .seq #[] }).get? s.heap.objs.size = some { cls := .type "list", data := .seq #[] } := Heap.get?_push_size _ rfl
  refine ⟨⟨_, hS, rfl⟩, F.args_list_init_2 _ _, init_rev (A := A.in1) (s := { s with heap := s.heap.push { cls := .type "list", data := .seq #[] } }) hh (hit.at fun o e => Heap.get?_push_of_some _ e) (hl.push _) hne hn _ hSi hSl hS fun s' acc' c' hm hS' hacc => ?_⟩
  refine ⟨rfl, ?_⟩
  rw [Moved.eq_with hm]
  exact hQ s'.heap s'.toks acc' c' (fun b o hb e => hm.heap b o (fun hmem => by
    rcases List.mem_cons.mp hmem with e' | hmem
    · exact absurd (Heap.lt_size e) (by rw [e']; exact Nat.lt_irrefl _)
    · exact hb (List.mem_singleton.mp hmem)) (Heap.get?_push_of_some _ e)) hS' hacc
end
section
variable {X : Cx}
/-- list(reversed(x)), x a list: a new list -/
def tLstRev (K : PySem.W.Frag) (te : TE) : TE := fun σ H Q => te σ H fun v H1 => ∃ (a : Addr) (xs : List V), v = .ref a ∧ SqL K H1 a xs ∧ ∀ q, H1 q = none → Q (.ref q) (upd H1 q (.lst xs.reverse))
theorem pe_lstRev {e : Expr} {te : TE} {p p2 pos pos2 : Pos} (hc : X.calm = true) (hg : Gl X "list") (hm : X.mg "list" = none) (hg2 : Gl X "reversed") (hm2 : X.mg "reversed" = none) (he : PE X e te)
    (hs : starEach [e] X.env = (false, eval e X.env) :: starEach [] X.env := by rfl)
    (hs2 : starEach [.Call (.Name "reversed" p2) [e] [] pos2] X.env = (false, eval (.Call (.Name "reversed" p2) [e] [] pos2) X.env) :: starEach [] X.env := by rfl) :
    PE X (.Call (.Name "list" p) [.Call (.Name "reversed" p2) [e] [] pos2] [] pos) (tLstRev X.K te) := by
  refine ⟨fun pins s σ H Q I h => ?_⟩
  refine Call_ (ld_blt I hg hm boot_list (PyProof.Rows.callWith_type1 (args_cons (Call_ (ld_blt I hg2 hm2 PyProof.Rows.boot_reversed (PyProof.Rows.callWith_type1 (args_cons (thn (he.run pins s σ H _ I h) fun u s1 ⟨v, H1, I1, r1, q1⟩ => args_nil ?_) hs) hs rfl))) hs2) hs2 rfl))
  obtain ⟨a, xs, ev, hq, q⟩ := q1
  subst ev
  obtain rfl : u = Value.ref a := r1
  obtain ⟨its, rv, p', hz⟩ := I1.list hq
  refine call_reversed_list p'.isList (args_nil ?_)
  have k0 : ∀ b o, s1.heap.get? b = some o → (s1.heap.push (revObj a ((its.toArray.size : Int) - 1))).get? b = some o := fun b o e => Heap.get?_push_of_some _ e
  have I2 : Inv X pins σ H1 { s1 with heap := s1.heap.push (revObj a ((its.toArray.size : Int) - 1)) } := I1.kept (t' := s1.toks) k0
  obtain ⟨f0, f1, f2, f3, f4, f5⟩ := I1.fpOk (H' := H1) (b := s1.heap.objs.size) (Nat.le_refl _) (I1.hok.fresh (Nat.le_refl _))
  have hl := p'.isList
  obtain ⟨ol, hol, _⟩ := id hl
  have hne : a ≠ s1.heap.objs.size := Nat.ne_of_lt (Heap.lt_size hol)
  have hn : its.toArray.size ≤ sizeLine := by rw [List.size_toArray, ← rv.length]; exact hz
  refine call_list_rev (s := { s1 with heap := s1.heap.push (revObj a ((its.toArray.size : Int) - 1)) }) (I1.ok.hd hc) ⟨_, Heap.get?_push_size _ rfl, rfl, rfl⟩ (hl.push _) hne hn fun h' tk acc c' hk hS hi => ?_
  refine ⟨.ref _, upd H1 (s1.heap.push (revObj a ((its.toArray.size : Int) - 1))).objs.size (.lst xs.reverse), I2.turnedNew (t' := tk) (ch := [s1.heap.objs.size]) (fun b o hb e => hk b o (fun z => hb (by simp [z])) e) (fun b hb => ?_) (Nat.le_refl _)
    (show ObjOk X.prog X.w _ _ _ (.lst xs.reverse) from ⟨by rw [List.length_reverse]; exact hz, acc.toList, c', vals_rev rv hi, by rw [Array.toArray_toList]; exact hS⟩), rfl, q _ (I2.hok.fresh (Nat.le_refl _))⟩
  have e : b = s1.heap.objs.size := by simpa using hb
  subst e
  exact ⟨f0, f1, f2, f3, f4, f5⟩
end
section
variable {X : Cx} {B : Bs} {a : Expr} {ml : ML} {fa : Cst} {p p2 pos pos2 : Pos}
/-- list(reversed(xs)), xs a list -/
theorem xo_listRev (ha : XL X B a ml fa) (hm : X.mg "list" = none) (hm2 : X.mg "reversed" = none) (hc : X.calm = true := by rfl) (hg : Gl X "list" := by rfl) (hg2 : Gl X "reversed" := by rfl) (hs : starEach [a] X.env = (false, eval a X.env) :: starEach [] X.env := by rfl)
    (hs2 : starEach [.Call (.Name "reversed" p2) [a] [] pos2] X.env = (false, eval (.Call (.Name "reversed" p2) [a] [] pos2) X.env) :: starEach [] X.env := by rfl) :
    XO X B (.Call (.Name "list" p) [.Call (.Name "reversed" p2) [a] [] pos2] [] pos) (fun e Q => ml e fun kd ds => kd ≠ .tup ∧ Q ds.reverse) fa :=
  ⟨fun e P P' h q => ha.mono e _ _ (fun kd ds q => ⟨q.1, h _ q.2⟩) q, peW (pe_lstRev hc hg hm hg2 hm2 ha.pe hs hs2) fun σ H Q ⟨e, G, bq, r, h⟩ => ha.go r h fun kd ds q v H1 G1 r1 x1 d1 => by
    obtain ⟨a, vs, rfl, sq, dd⟩ := d1
    have sl : SqL X.K H1 a vs := by
      cases kd with
      | tup => exact absurd rfl q.1
      | lst => exact .inl (.inl sq.1)
      | scr => exact r1.sub.seq sq
    exact ⟨a, vs, rfl, sl, fun p hp => q.2 p _ _ _ (r1.laid hp _) (x1.trans (nxt_only hp _)) (ext_both x1.ext hp (r1.nopot hp)) (r1.gold hp) upd_same dd.rev⟩⟩
end
end Fd

set_option Elab.async false
set_option linter.all false
set_option maxRecDepth 100000
set_option maxHeartbeats 4000000
/-! Fd, part 5: sorted and min of lists of tuples of ints, of whatever lengths. -/
namespace Fd
open PySem PySem.Spec PyProof.Rows
/-! ### in the heap -/
/-- v is a tuple of these ints -/
def IsTi (h : Heap) (v : Value) (ns : List Int) : Prop := ∃ (a : Addr) (its : List Value), v = .ref a ∧ h.IsTuple a its.toArray ∧ IntsAre its ns
theorem IsTi.keeps {h h' : Heap} {v : Value} {ns : List Int} (x : IsTi h v ns) (k : ∀ b o, h.get? b = some o → o.cls = .type "tuple" → h'.get? b = some o) : IsTi h' v ns := by
  obtain ⟨a, its, e, ⟨o, ho, hc, n, hd⟩, i⟩ := x
  exact ⟨a, its, e, ⟨o, k _ _ ho hc, hc, n, hd⟩, i⟩
section
variable {prog : Program} {w : World} {A : Around} {E : Value → Shared → Prop} {s : Shared}
theorem kat_ti : ∀ {xs ys : List Value} {ns ms : List Int} (i : Nat), IntsAre xs ns → IntsAre ys ms →
    PySem.W.KatLex prog w A true (decide (ns.length < ms.length)) (fun r s' => s' = s ∧ r = HT.lexLt ns ms) (xs.zip ys) i s
  | _, _, _, _, i, .nil, .nil => PySem.W.kat_nil ⟨rfl, rfl⟩
  | _, _, _, _, i, .nil, .cons c u h => PySem.W.kat_nil ⟨rfl, by rw [HT.lexLt_nil_cons]; exact decide_eq_true (by simp)⟩
  | _, _, _, _, i, .cons c u h, .nil => PySem.W.kat_nil ⟨rfl, by rw [HT.lexLt_cons_nil]; exact decide_eq_false (by simp)⟩
  | _, _, _, _, i, .cons (ns := ns) a t hx, .cons (ns := ms) c u hy => by
    rw [List.zip_cons_cons]
    refine PySem.W.kat_cons (SeqAt.EqAt.int_int a t c u prog w _ _ ?_)
    refine PySem.W.kat_go (fun e1 => PySem.W.kat_yes ?_) (fun e1 => PySem.W.kat_no ?_)
    · have ex : a = c := by simpa using e1
      have := kat_ti (i + 1) hx hy
      rw [HT.lexLt_cons, if_pos ex]
      simpa using this
    · have ex : ¬ a = c := by simpa using e1
      rw [HT.lexLt_cons, if_neg ex]
      cases hb : (true && i == 0) with
      | true => exact oneLt_int ⟨rfl, rfl⟩
      | false => exact PySem.W.kat_one _ _ (PyProof.Rows.lt_int (show s = s ∧ _ from ⟨rfl, rfl⟩))
theorem call_ltTi {a b : Addr} {xs ys : List Value} {ns ms : List Int} {Q : Value → Shared → Prop} (hu : A.units < cLine) (ha : s.heap.IsTuple a xs.toArray) (hb : s.heap.IsTuple b ys.toArray) (ia : IntsAre xs ns) (ib : IntsAre ys ms) (h : Q (.bool (HT.lexLt ns ms)) s) :
    wpAny (model prog w) A (call (.builtin "tuple.__lt__") [.ref a, .ref b]) Q E s := by
  obtain ⟨⟨cls, dd, data, sl⟩, ho, hc, n, hd⟩ := id ha
  obtain ⟨⟨cls2, dd2, data2, sl2⟩, ho2, hc2, n2, hd2⟩ := id hb
  simp only at hc hd hc2 hd2
  subst hc hd hc2 hd2
  refine wpAny_call (codeAny_call_builtin PySem.F.slot_tuple_lt.plain PySem.F.entry_tuple_lt (PySem.F.slot_tuple_lt.check _ _ _ _ _ _ _ _ ⟨_, ho, rfl⟩ (PySem.F.args_tuple_lt_2 _ _) ?_))
  refine wpAny_mono (HT.tuple_lt_ints a b xs.toArray ys.toArray n n2 dd dd2 sl sl2 ns ms ia ib prog w _ (wants Q E) s ⟨ho, ho2, h⟩) (fun fin s' q => ?_) fun _ _ z => z
  cases fin with
  | done f => exact q
  | again c => exact q
theorem lt_ti {κ : SortKind} {v u : Value} {ns ms : List Int} (hκ : κ = tuples' true ∨ κ = oneType' ∨ κ = general') (hu : A.units < cLine) (hv : IsTi s.heap v ns) (hw : IsTi s.heap u ms) :
    wpAny (model prog w) A (keyLt' κ v u) (fun r s' => s' = s ∧ r = HT.lexLt ns ms) E s := by
  obtain ⟨a, xs, rfl, ha, ia⟩ := hv
  obtain ⟨b, ys, rfl, hb, ib⟩ := hw
  rcases hκ with rfl | rfl | rfl
  · obtain ⟨o, ho, hc, n, hd⟩ := ha
    obtain ⟨o2, ho2, hc2, n2, hd2⟩ := hb
    refine PySem.W.kat_lt ho hd ho2 hd2 ?_
    have e : decide (xs.toArray.size < ys.toArray.size) = decide (ns.length < ms.length) := by
      rw [List.size_toArray, List.size_toArray, ia.length, ib.length]
    rw [e]
    exact kat_ti 0 ia ib
  · rw [keyLt'_oneType, oneLt'_eq]
    simp only [if_true]
    refine wpAny_bind (wpAny_cRoomFor hu ?_)
    obtain ⟨o, ho, hc, n, hd⟩ := id ha
    refine wpAny_bind (wpAny_callSpecialIfBound?_slot (T := "tuple") ⟨_, ho, hc⟩ PySem.F.slot_tuple_lt (call_ltTi hu ha hb ia ib ?_))
    exact wpAny_truthy_bool ⟨rfl, rfl⟩
  · exact PySem.W.kat_one _ _ (HT.lt_tupInts ha hb ia ib hu (show s = s ∧ _ from ⟨rfl, rfl⟩))
/-- what list.sort asks of each key -/
def FirstO (h : Heap) : List Value → List (Option Value) → Prop
  | [], [] => True
  | v :: vs, f :: fs => (∃ a o xs n, v = .ref a ∧ h.get? a = some o ∧ o.cls = .type "tuple" ∧ o.data = .seq xs n ∧ xs[0]? = f) ∧ FirstO h vs fs
  | _, _ => False
theorem firstO_run {M : Model} : ∀ (vs : List Value) (fs : List (Option Value)) {Q : List (Option Value) → Shared → Prop}, FirstO s.heap vs fs → Q fs s → wpAny M A (vs.mapM firstOfTuple') Q E s
  | [], [], _, _, h => by rw [List.mapM_nil]; exact wpAny_pure h
  | [], _ :: _, _, t, _ => t.elim
  | _ :: _, [], _, t, _ => t.elim
  | v :: vs, f :: fs, Q, t, h => by
    obtain ⟨⟨a, o, xs, n, rfl, ho, hc, hd, hf⟩, t⟩ := t
    rw [List.mapM_cons]
    refine wpAny_bind ?_
    rw [PySem.W.kas_first_eq]
    refine wpAny_bind (PySem.W.Looks.here (show PySem.W.Looks M s.heap (typeOf (.ref a)) o.cls from (PySem.W.Looks.ld ho).andThen .now) ?_)
    rw [hc, if_neg (by first | decide | simp)]
    refine wpAny_bind (listItems_at ho hd (wpAny_pure ?_))
    rw [hf]
    exact wpAny_bind (firstO_run vs fs (Q := fun bs s' => wpAny M A (pure (f :: bs)) Q E s') t (wpAny_pure h))
theorem firstO_of {h : Heap} : ∀ {vs : List Value}, (∀ v ∈ vs, ∃ ns, IsTi h v ns) → ∃ fs, FirstO h vs fs ∧ fs.length = vs.length ∧ ∀ f ∈ fs, ∀ x, f = some x → ∃ i t, x = Value.int i t
  | [], _ => ⟨[], trivial, rfl, fun _ hm => by simp at hm⟩
  | v :: vs, hp => by
    obtain ⟨fs, h1, h2, h3⟩ := firstO_of (vs := vs) fun v' hm => hp v' (List.mem_cons_of_mem _ hm)
    obtain ⟨ns, a, its, rfl, ⟨o, ho, hc, n, hd⟩, i⟩ := hp v (List.mem_cons_self ..)
    refine ⟨its.toArray[0]? :: fs, ⟨⟨a, o, _, n, rfl, ho, hc, hd, rfl⟩, h1⟩, by rw [List.length_cons, List.length_cons, h2], fun f hm x hx => ?_⟩
    rcases List.mem_cons.mp hm with rfl | hm
    · cases i with
      | nil => cases hx
      | cons c u hh => cases hx; exact ⟨_, _, rfl⟩
    · exact h3 f hm x hx
theorem firstO_all {h : Heap} : ∀ {vs : List Value} {fs : List (Option Value)}, FirstO h vs fs → (∀ f ∈ fs, f.isSome = true) → ∃ gs : List Value, fs = gs.map some ∧ PySem.W.KatTups h vs gs
  | [], [], _, _ => ⟨[], rfl, PySem.W.KatTups.nil⟩
  | [], _ :: _, t, _ => t.elim
  | _ :: _, [], t, _ => t.elim
  | v :: vs, f :: fs, t, hh => by
    obtain ⟨⟨a, o, xs, n, rfl, ho, hc, hd, hf⟩, t⟩ := t
    obtain ⟨gs, rfl, k⟩ := firstO_all t fun f hm => hh f (List.mem_cons_of_mem _ hm)
    have := hh f List.mem_cons_self
    obtain ⟨g, rfl⟩ := Option.isSome_iff_exists.mp this
    exact ⟨g :: gs, rfl, PySem.W.KatTups.cons ho hc hd hf k⟩
theorem ti_kind {vs : List Value} (h2 : 2 ≤ vs.length) (hp : ∀ v ∈ vs, ∃ ns, IsTi s.heap v ns) : ∃ κ, (κ = tuples' true ∨ κ = oneType' ∨ κ = general') ∧
    ∀ (Q : SortKind → Shared → Prop) (E : Value → Shared → Prop), Q κ s → wpAny (model prog w) A (keyKind' vs.toArray) Q E s := by
  obtain ⟨fs, h1, hl, h3⟩ := firstO_of hp
  by_cases hall : ∀ f ∈ fs, f.isSome = true
  · obtain ⟨gs, rfl, k⟩ := firstO_all h1 hall
    refine ⟨tuples' true, .inl rfl, fun Q E hq => ?_⟩
    rw [List.length_map] at hl
    refine PySem.W.kat_kind (T := .type "int") k (by omega) (fun f hm => ?_) (by rfl) ?_
    · obtain ⟨x, t, rfl⟩ := h3 _ (List.mem_map_of_mem hm) f rfl
      exact PySem.W.Looks.now
    · have e : (Value.type "int" != Value.type "tuple") = true := by first | decide +kernel | rfl | decide
      rw [e]
      exact hq
  · have hno : ¬ (fs.toArray.all fun x => x.isSome) = true := by
      intro z
      apply hall
      simpa using z
    by_cases hf : (fs.toArray[0]?.bind id).isSome = true
    · refine ⟨general', .inr (.inr rfl), fun Q E hq => ?_⟩
      rw [kat_kind_eq, List.mapM_toArray, map_eq_pure_bind]
      refine wpAny_bind (wpAny_bind (firstO_run vs fs h1 (wpAny_pure ?_)))
      rw [if_neg hno, if_pos hf]
      exact wpAny_pure hq
    · refine ⟨oneType', .inr (.inl rfl), fun Q E hq => ?_⟩
      rw [kat_kind_eq, List.mapM_toArray, map_eq_pure_bind]
      refine wpAny_bind (wpAny_bind (firstO_run vs fs h1 (wpAny_pure ?_)))
      rw [if_neg hno, if_neg hf]
      rw [oneTypeOnly'_eq, List.mapM_toArray, map_eq_pure_bind]
      refine wpAny_bind (wpAny_bind (wpAny_bind (PySem.W.kas_mapM (r := Value.type "tuple") _ (fun v hv Q' hq => ?_) (wpAny_pure ?_))))
      · obtain ⟨ns, a, its, rfl, ⟨o, ho, hc, n, hd⟩, i⟩ := hp v hv
        refine PySem.W.Looks.here (show PySem.W.Looks (model prog w) s.heap (typeOf (.ref a)) (.type "tuple") from hc ▸ (PySem.W.Looks.ld ho).andThen .now) hq
      · obtain ⟨v₁, v₂, rest, rfl⟩ : ∃ v₁ v₂ rest, vs = v₁ :: v₂ :: rest := by
          match vs, h2 with
          | [], h2 => simp at h2
          | [_], h2 => simp at h2
          | v₁ :: v₂ :: rest, _ => exact ⟨v₁, v₂, rest, rfl⟩
        have hall : ((List.map (fun _ => Value.type "tuple") (v₁ :: v₂ :: rest)).toArray.all fun x => x == Value.type "tuple") = true := by
          simp only [List.all_toArray, List.all_map, List.all_eq_true]
          intro _ _
          rfl
        have h0 : (List.map (fun _ => Value.type "tuple") (v₁ :: v₂ :: rest)).toArray[0]? = some (Value.type "tuple") := by simp
        rw [h0]
        simp only [hall, if_true]
        exact wpAny_pure (wpAny_pure hq)
theorem ti_sortable {a : Addr} {vs : List Value} {k : Value → List Int} (hu : A.units < cLine) (h2 : 2 ≤ vs.length) (hp : ∀ v ∈ vs, IsTi s.heap v (k v)) (ha : ∀ o, s.heap.get? a = some o → o.cls ≠ .type "tuple") : SrtO.SortableO prog w A s a vs fun v u => HT.lexLt (k v) (k u) := by
  intro h' keep
  have hp' : ∀ v ∈ vs, IsTi h' v (k v) := fun v hm => (hp v hm).keeps fun b o e c => keep b o (fun z => by subst z; exact ha o e c) e
  obtain ⟨κ, hκ, hk⟩ := ti_kind (prog := prog) (w := w) (A := A) (s := { s with heap := h' }) h2 fun v hv => ⟨_, hp' v hv⟩
  exact ⟨κ, hk, fun p q m m' => lt_ti (s := { s with heap := h' }) hκ hu (hp' _ m) (hp' _ m')⟩
/-- sorted(l) of tuples of ints -/
theorem sorted_ti {l : Addr} {vs : List Value} {k : Value → List Int} {Q : Value → Shared → Prop} (hu : A.in1.in1.units < cLine) (hl : s.heap.IsList l vs.toArray) (hz : vs.length ≤ sizeLine) (hp : ∀ v ∈ vs, IsTi s.heap v (k v))
    (h : ∀ (h' : Heap) (d : Addr) (out : List Value), SrtO.Srtd (fun v u => HT.lexLt (k v) (k u)) out → SrtO.Stb (fun v u => HT.lexLt (k v) (k u)) out vs → (∀ b o, s.heap.get? b = some o → h'.get? b = some o) → s.heap.objs.size ≤ d → (∃ n, h'.get? d = some (seqObj "list" out.toArray n)) → Q (.ref d) { s with heap := h' }) :
    wpAny (model prog w) A (call (.builtin "sorted") [.ref l]) Q E s := by
  refine SrtO.sorted_ord (NtL.swo_lexL k) hl hz (fun h2 h₁ a ha kk => ?_) fun out hs hb => ?_
  · refine ti_sortable (s := { s with heap := h₁ }) hu h2 (fun v hm => (hp v hm).keeps fun b o e _ => (kk b o e).2) fun o e => ?_
    have e' : some o = some (seqObj "list" vs.toArray 0) := e.symm.trans ha
    cases e'
    intro c
    exact absurd (Value.type.inj c) (by decide)
  · exact h _ _ out hs hb (fun b o e => sortedAll_old e) (Nat.le_succ _) (sortedAll_at s.heap vs out.toArray)
end
/-! ### as a rule -/
open L2
def rSortedTI (K : PySem.W.Frag) : List V → Hp → VK → Prop := fun vs H Q => ∃ (a : Addr) (xs : List V) (k : V → List Int), vs = [V.ref a] ∧ SqL K H a xs ∧ (∀ x ∈ xs, ∃ t, x = V.ref t ∧ H t = some (.tup ((k x).map V.int))) ∧
  ∀ ys p, ys.Pairwise (fun x y => HT.lexLt (k y) (k x) = false) → ys.Perm xs → H p = none → Q (.ref p) (upd H p (.lst ys))
section
variable {X : Cx}
theorem cr_sortedTI (hu : X.A.units + 64 < cLine) : CallR X (.builtin "sorted") (rSortedTI X.K) := by
  intro pins s σ H vs us Q I r h
  obtain ⟨a, xs, k, rfl, hs, hx, q⟩ := h
  obtain ⟨its, rv, hl, hz⟩ := I.list hs
  obtain ⟨u, rfl, ru⟩ := vals1 r
  obtain rfl : u = Value.ref a := ru
  obtain ⟨e1, e2⟩ := refs_back rv fun x m => by
    obtain ⟨t, e, _⟩ := hx x m
    exact ⟨t, e⟩
  refine sorted_ti (k := fun u => k (backV u)) (by show X.A.units + 1 + 1 < cLine; omega) hl.isList (by rw [← rv.length]; exact hz) (fun v hv => ?_) fun h' d out h1 h2 kp hd hn => ?_
  · obtain ⟨t, rfl⟩ := e2 v hv
    have hm : V.ref t ∈ xs := by rw [e1]; exact List.mem_map.mpr ⟨_, hv, rfl⟩
    obtain ⟨t', e, ht⟩ := hx _ hm
    cases e
    obtain ⟨_, its2, r2, o, ho, hc, n, hd⟩ := I.hok _ _ ht
    exact ⟨t, its2, rfl, ⟨o, ho, hc, n, hd⟩, Vals.ints r2⟩
  · have h3 : ∀ u ∈ out, ∃ a, u = Value.ref a := fun u hu => e2 u (h2.perm.mem_iff.mp hu)
    obtain ⟨n, hn⟩ := hn
    have hb : (out.map backV).Perm xs := by
      rw [e1]
      exact h2.perm.map backV
    refine ⟨.ref d, upd H d (.lst (out.map backV)), I.laid (t' := s.toks) kp hd ⟨?_, out, n, vals_back h3, hn⟩, rfl, q _ d (List.pairwise_map.mpr (h1.imp fun {x y} z => z)) hb (I.hok.fresh hd)⟩
    rw [hb.length_eq]
    exact hz
end
/-- a tuple of ints -/
def tupI (k : List Int) : PyData := .tuple (k.map .int)
/-- the same rows in ascending order -/
def srtL (ks : List (List Int)) : List (List Int) := ks.mergeSort fun a b => !HT.lexLt b a
theorem lexLt_anti : ∀ (a b : List Int), HT.lexLt a b = false → HT.lexLt b a = false → a = b
  | [], [], _, _ => rfl
  | [], y :: ys, h, _ => by rw [HT.lexLt_nil_cons] at h; cases h
  | x :: xs, [], _, h => by rw [HT.lexLt_nil_cons] at h; cases h
  | x :: xs, y :: ys, h1, h2 => by
    rw [HT.lexLt_cons] at h1 h2
    by_cases e : x = y
    · rw [if_pos e] at h1
      rw [if_pos e.symm] at h2
      rw [e, lexLt_anti xs ys h1 h2]
    · rw [if_neg e] at h1
      rw [if_neg (Ne.symm e)] at h2
      have a := of_decide_eq_false h1
      have b := of_decide_eq_false h2
      omega
theorem srtL_perm (ks : List (List Int)) : (srtL ks).Perm ks := List.mergeSort_perm _ _
theorem srtL_pw (ks : List (List Int)) : (srtL ks).Pairwise fun a b => HT.lexLt b a = false := by
  have := List.pairwise_mergeSort (le := fun a b : List Int => !HT.lexLt b a) (fun a b c h1 h2 => by
    have h1 : HT.lexLt b a = false := by simpa using h1
    have h2 : HT.lexLt c b = false := by simpa using h2
    have := NtL.lex_tr a b c h1 h2
    simp [this]) (fun a b => by
    cases h : HT.lexLt b a with
    | false => simp
    | true => simp [NtL.lex_asym b a h]) ks
  exact this.imp fun h => by simpa using h
theorem srtL_eq {ks ks' : List (List Int)} (hp : ks'.Perm ks) (hw : ks'.Pairwise fun a b => HT.lexLt b a = false) : ks' = srtL ks :=
  List.Perm.eq_of_pairwise (le := fun a b => HT.lexLt b a = false) (fun a b _ _ h1 h2 => lexLt_anti a b h2 h1) hw (srtL_pw ks) (hp.trans (srtL_perm ks).symm)
def intsV : List V → List Int
  | [] => []
  | .int i :: xs => i :: intsV xs
  | _ :: xs => intsV xs
theorem intsV_map : ∀ k : List Int, intsV (k.map V.int) = k
  | [] => rfl
  | i :: k => by rw [List.map_cons]; show i :: intsV (k.map V.int) = _; rw [intsV_map k]
def tiOf (G : Hp) : V → List Int
  | .ref t => match G t with
    | some (.tup ws) => intsV ws
    | _ => []
  | _ => []
theorem dats_ks {K : PySem.W.Frag} {G : Hp} : ∀ {vs : List V} {ks : List (List Int)}, Dats K G vs (ks.map tupI) → vs.map (tiOf G) = ks ∧ ∀ x ∈ vs, (∃ t, x = .ref t ∧ G t = some (.tup ((tiOf G x).map V.int))) ∧ Dat K G x (tupI (tiOf G x))
  | [], [], _ => ⟨rfl, fun x hx => by simp at hx⟩
  | [], _ :: _, d => by cases d
  | _ :: _, [], d => by cases d
  | v :: vs, k :: ks, d => by
    rw [List.map_cons] at d
    cases d with
    | cons d1 d2 =>
      obtain ⟨h1, h2⟩ := dats_ks d2
      have hd : (∃ t, v = .ref t ∧ G t = some (.tup (k.map V.int))) := by
        unfold tupI at d1
        cases d1 with
        | tup s t => exact ⟨_, rfl, by rw [t.ints] at s; exact s⟩
      obtain ⟨t, rfl, ht⟩ := hd
      have hk : tiOf G (.ref t) = k := by
        unfold tiOf
        simp only [ht]
        exact intsV_map k
      refine ⟨by rw [List.map_cons, hk, h1], fun x hx => ?_⟩
      rcases List.mem_cons.mp hx with rfl | hx
      · rw [hk]; exact ⟨⟨t, rfl, ht⟩, d1⟩
      · exact h2 x hx
theorem dats_of_ks {K : PySem.W.Frag} {G : Hp} : ∀ {vs : List V}, (∀ x ∈ vs, Dat K G x (tupI (tiOf G x))) → Dats K G vs ((vs.map (tiOf G)).map tupI)
  | [], _ => .nil
  | v :: vs, h => .cons (h v List.mem_cons_self) (dats_of_ks fun x hx => h x (List.mem_cons_of_mem _ hx))
section
variable {X : Cx} {B : Bs} {a : Expr} {ml : ML} {fa : Cst} {pos p : Pos}
/-- sorted(xs), xs a list of tuples of ints -/
theorem xo_sortedR (hu : X.A.units + 64 < cLine) (ha : XL X B a ml fa) (hm : X.mg "sorted" = none) (hg : Gl X "sorted" := by rfl) (hs : starEach [a] X.env = (false, eval a X.env) :: starEach [] X.env := by rfl) (hpl : (backTo pos (starEach [] X.env)).any (·.1) = false := by rfl) :
    XO X B (.Call (.Name "sorted" p) [a] [] pos) (fun e Q => ml e fun kd ds => kd ≠ .tup ∧ ∃ ks : List (List Int), ds = ks.map tupI ∧ Q ((srtL ks).map tupI)) fa :=
  ⟨fun e P P' h q => ha.mono e _ _ (fun k ds ⟨q1, ks, q2, q3⟩ => ⟨q1, ks, q2, h _ q3⟩) q, peW (pe_callB (cr_sortedTI hu) hg hm (by decide +kernel) (one_arg ha.pe hs) (he := hs) (hpl := hpl)) fun σ H Q ⟨e, G, bq, r, h⟩ => ha.go r h fun kd ds q v H1 G1 r1 x1 d1 => by
    obtain ⟨q1, ks, rfl, q2⟩ := q
    obtain ⟨a, vs, rfl, sq, dd⟩ := d1
    have sl : SqL X.K H1 a vs := by
      cases kd with
      | tup => exact absurd rfl q1
      | lst => exact .inl (.inl sq.1)
      | scr => exact r1.sub.seq sq
    obtain ⟨k1, k2⟩ := dats_ks dd
    refine ⟨a, vs, tiOf G1, rfl, sl, fun x hx => ?_, fun ys p h1 h2 hp => ?_⟩
    · obtain ⟨⟨t, e, g⟩, _⟩ := k2 x hx
      exact ⟨t, e, r1.sub _ _ g⟩
    · have e : ys.map (tiOf G1) = srtL ks := srtL_eq (by rw [← k1]; exact h2.map _) (List.pairwise_map.mpr h1)
      have d : Dats X.K G1 ys ((srtL ks).map tupI) := by
        rw [← e]
        exact dats_of_ks fun x hx => (k2 x (h2.mem_iff.mp hx)).2
      exact q2 p _ _ _ (r1.laid hp _) (x1.trans (nxt_only hp _)) (ext_both x1.ext hp (r1.nopot hp)) (r1.gold hp) upd_same d⟩
end
/-! ### min of a list of tuples of ints -/
/-- the least of some rows, the first one k -/
def minL (k : List Int) (ks : List (List Int)) : List Int := ks.foldl (fun a y => if HT.lexLt y a = true then y else a) k
theorem toks_lex : ∀ a b : List Int, PyProof.Rows.lexLt itemOrd (PySem.W.keyToksAll (a.map .int)) (PySem.W.keyToksAll (b.map .int)) = HT.lexLt a b
  | [], [] => by
    rw [HT.lexLt_nil_nil, List.map_nil]
    rw [PySem.W.keyToksAll]
    exact (lex_self (O := itemOrd) _ _ _).trans rfl
  | [], y :: ys => by
    rw [HT.lexLt_nil_cons, List.map_nil, List.map_cons, PySem.W.keyToksAll, PySem.W.toks_all_cons]
    rw [lex_diff (O := itemOrd) (by intro z; cases z)]
    rfl
  | x :: xs, [] => by
    rw [HT.lexLt_cons_nil, List.map_nil, List.map_cons, PySem.W.toks_all_cons, PySem.W.keyToksAll]
    rw [lex_diff (O := itemOrd) (by intro z; cases z)]
    rfl
  | x :: xs, y :: ys => by
    rw [HT.lexLt_cons, List.map_cons, List.map_cons]
    have ha : PySem.W.alike (.int x) (.int y) = true := by simp [PySem.W.alike]
    by_cases e : x = y
    · rw [if_pos e, PySem.W.dataLt_all_yes ha (by simp [PyData.eqv, e]), toks_lex xs ys]
    · rw [if_neg e, PySem.W.dataLt_all_no ha (by simp [PyData.eqv, e]), PySem.W.dataLt_int]
theorem dataLt_tupI (a b : List Int) : PySem.W.dataLt (tupI a) (tupI b) = HT.lexLt a b := by
  unfold tupI
  rw [PySem.W.dataLt_tuple, toks_lex]
theorem minD_tupI : ∀ (ks : List (List Int)) (k : List Int), PySem.W.minD (tupI k) (ks.map tupI) = tupI (minL k ks)
  | [], k => rfl
  | y :: ks, k => by
    have := minD_tupI ks (if HT.lexLt y k = true then y else k)
    unfold PySem.W.minD minL at this ⊢
    rw [List.map_cons, List.foldl_cons, List.foldl_cons, dataLt_tupI, ← this]
    congr 1
    split <;> rfl
theorem alikeAll_ints : ∀ a b : List Int, PySem.W.alikeAll (a.map .int) (b.map .int) = true
  | [], b => by rw [List.map_nil]; cases b.map PyData.int <;> rw [PySem.W.alikeAll]
  | x :: xs, [] => by rw [List.map_nil, List.map_cons, PySem.W.alikeAll]
  | x :: xs, y :: ys => by
    rw [List.map_cons, List.map_cons, PySem.W.alikeAll, alikeAll_ints xs ys]
    simp [PySem.W.alike]
theorem alike_tups (ks : List (List Int)) : PySem.W.AlikeAll (ks.map tupI) := by
  refine ⟨fun x hx y hy => ?_, fun x hx => ?_⟩
  · obtain ⟨i, _, rfl⟩ := List.mem_map.mp hx
    obtain ⟨j, _, rfl⟩ := List.mem_map.mp hy
    unfold tupI
    rw [PySem.W.alike]
    exact alikeAll_ints i j
  · obtain ⟨i, _, rfl⟩ := List.mem_map.mp hx
    exact fun z => nomatch z
theorem depth_tups : ∀ ks : List (List Int), PyData.depthAll (ks.map tupI) ≤ 1
  | [] => by simp [PyData.depthAll]
  | k :: ks => by
    have := depth_tups ks
    have h := depth_ints k
    simp only [List.map_cons, PyData.depthAll, tupI, PyData.depth, h]
    have : PyData.depthAll (ks.map tupI) ≤ 1 := this
    unfold tupI at this
    omega
theorem reads_ti {h : Heap} {v : Value} {ns : List Int} (x : IsTi h v ns) : ∃ as, Reads h v (tupI ns) as := by
  obtain ⟨a, its, rfl, ⟨o, ho, hc, n, hd⟩, i⟩ := x
  obtain ⟨as, q⟩ := reads_ints (h := h) i
  exact ⟨_, Reads.tuple ho hc hd (by simpa using q)⟩
theorem readsAll_ti {h : Heap} {k : Value → List Int} : ∀ {vs : List Value}, (∀ v ∈ vs, IsTi h v (k v)) → ∃ as, ReadsAll h vs ((vs.map k).map tupI) as
  | [], _ => ⟨_, ReadsAll.nil⟩
  | v :: vs, hp => by
    obtain ⟨a1, q1⟩ := reads_ti (hp v List.mem_cons_self)
    obtain ⟨a2, q2⟩ := readsAll_ti (vs := vs) fun w hw => hp w (List.mem_cons_of_mem _ hw)
    exact ⟨_, ReadsAll.cons q1 q2⟩
theorem readsInts_inj {h : Heap} : ∀ {us : List Value} {ns ms : List Int} {as : List Addr}, IntsAre us ns → ReadsAll h us (ms.map PyData.int) as → ns = ms
  | _, _, [], _, .nil, _ => rfl
  | _, _, _ :: _, _, .nil, q => by rw [List.map_cons] at q; cases q
  | _, _, [], _, .cons n t hh, q => by rw [List.map_nil] at q; cases q
  | _, _, m :: ms, _, .cons n t hh, q => by
    rw [List.map_cons] at q
    cases q with
    | cons q1 q2 =>
      cases q1
      rw [readsInts_inj hh q2]
theorem ti_reads {h : Heap} {v : Value} {ns ms : List Int} {as : List Addr} (x : IsTi h v ns) (r : Reads h v (tupI ms) as) : ns = ms := by
  obtain ⟨a, its, rfl, ⟨o, ho, hc, n, hd⟩, i⟩ := x
  unfold tupI at r
  cases r with
  | tuple h1 h2 h3 h4 =>
    rw [ho] at h1
    cases h1
    rw [hd] at h3
    cases h3
    exact readsInts_inj i (by simpa using h4)
def rMinTI (K : PySem.W.Frag) : List V → Hp → VK → Prop := fun vs H Q => ∃ (a : Addr) (x : V) (xs : List V) (k : V → List Int), vs = [V.ref a] ∧ SqL K H a (x :: xs) ∧ (∀ y ∈ x :: xs, ∃ t, y = V.ref t ∧ H t = some (.tup ((k y).map V.int))) ∧
  ∀ y ∈ x :: xs, k y = minL (k x) (xs.map k) → Q y H
section
variable {X : Cx}
theorem cr_minTI (hc : X.calm = true) (hu : X.A.units + 64 < cLine) : CallR X (.builtin "min") (rMinTI X.K) := by
  intro pins s σ H vs us Q I r h
  obtain ⟨a, x, xs, k, rfl, hs, hx, q⟩ := h
  have er := Vals.ref1 r
  subst er
  obtain ⟨its, rv, hl, _⟩ := I.list hs
  obtain ⟨e1, e2⟩ := refs_back rv fun x m => by
    obtain ⟨t, e, _⟩ := hx x m
    exact ⟨t, e⟩
  have hti : ∀ v ∈ its, IsTi s.heap v (k (backV v)) := fun v hv => by
    obtain ⟨t, rfl⟩ := e2 v hv
    have hm : V.ref t ∈ x :: xs := by rw [e1]; exact List.mem_map.mpr ⟨_, hv, rfl⟩
    obtain ⟨t', e, ht⟩ := hx _ hm
    cases e
    obtain ⟨_, its2, r2, o, ho, hc, n, hd⟩ := I.hok _ _ ht
    exact ⟨t, its2, rfl, ⟨o, ho, hc, n, hd⟩, Vals.ints r2⟩
  obtain ⟨as, rd⟩ := readsAll_ti (k := fun v => k (backV v)) hti
  have em : (its.map fun v => k (backV v)) = k x :: xs.map k := by
    have := congrArg (List.map k) e1
    rw [List.map_map] at this
    rw [← List.map_cons (f := k), this]
    rfl
  rw [em, List.map_cons] at rd
  have hd : X.A.units + 1 + PyData.depthAll (tupI (k x) :: (xs.map k).map tupI) < cLine := by
    have := depth_tups (k x :: xs.map k)
    rw [List.map_cons] at this
    omega
  refine PySem.W.min_list_data (I.ok.hd hc) hl.isList rd (by have := alike_tups (k x :: xs.map k); rw [List.map_cons] at this; exact this) hd fun i v h' tk bs hi rd' hk => ?_
  rw [minD_tupI] at rd'
  have hv : v ∈ its := by
    rw [List.getElem?_toArray] at hi
    exact List.mem_of_getElem? hi
  have e := ti_reads ((hti v hv).keeps fun b o e _ => hk b o e) rd'
  obtain ⟨t, rfl⟩ := e2 v hv
  have hm : V.ref t ∈ x :: xs := by rw [e1]; exact List.mem_map.mpr ⟨_, hv, rfl⟩
  exact ⟨.ref t, H, I.kept (t' := tk) hk, rfl, q _ hm e⟩
end
section
variable {X : Cx} {B : Bs} {a : Expr} {ml : ML} {fa : Cst} {pos p : Pos}
/-- min(xs), xs a list of tuples of ints -/
theorem xe_minR (hu : X.A.units + 64 < cLine) (ha : XL X B a ml fa) (hm : X.mg "min" = none) (hg : Gl X "min" := by rfl) (hc : X.calm = true := by rfl) (hs : starEach [a] X.env = (false, eval a X.env) :: starEach [] X.env := by rfl) (hpl : (backTo pos (starEach [] X.env)).any (·.1) = false := by rfl) :
    XE X B (.Call (.Name "min" p) [a] [] pos) (fun e Q => ml e fun kd ds => kd ≠ .tup ∧ ∃ (k : List Int) (ks : List (List Int)), ds = (k :: ks).map tupI ∧ Q (.d (tupI (minL k ks)))) fa :=
  ⟨fun e P P' h q => ha.mono e _ _ (fun kd ds ⟨q1, k, ks, q2, q3⟩ => ⟨q1, k, ks, q2, h _ q3⟩) q, peW (pe_callB (cr_minTI hc hu) hg hm (by decide +kernel) (one_arg ha.pe hs) (he := hs) (hpl := hpl)) fun σ H Q ⟨e, G, bq, r, h⟩ => ha.go r h fun kd ds q v H1 G1 r1 x1 d1 => by
    obtain ⟨q1, k, ks, rfl, q2⟩ := q
    obtain ⟨a, vs, rfl, sq, dd⟩ := d1
    have sl : SqL X.K H1 a vs := by
      cases kd with
      | tup => exact absurd rfl q1
      | lst => exact .inl (.inl sq.1)
      | scr => exact r1.sub.seq sq
    obtain ⟨k1, k2⟩ := dats_ks dd
    obtain ⟨x, xs, rfl⟩ : ∃ x xs, vs = x :: xs := by
      cases vs with
      | nil => cases k1
      | cons x xs => exact ⟨x, xs, rfl⟩
    rw [List.map_cons] at k1
    injection k1 with k3 k4
    refine ⟨a, x, xs, tiOf G1, rfl, sl, fun y hy => ?_, fun y hy e => ?_⟩
    · obtain ⟨⟨t, e, g⟩, _⟩ := k2 y hy
      exact ⟨t, e, r1.sub _ _ g⟩
    · have d := (k2 y hy).2
      rw [e, k3, k4] at d
      exact q2 _ H1 G1 r1 x1 d⟩
end
/-! ### a loop over range(n) -/
theorem forL_nat {mg : MG} {mb : MS} {k : Kt} (n : Nat) (I : Nat → En → Prop) (h0 : ∀ e, I n e → k.nx e)
    (hs : ∀ (j : Nat) e (R : En → Prop), j < n → I j e → (∀ e', I (j + 1) e' → R e') → mg (.d (.int j)) e fun e1 => mb e1 { nx := R, rt := k.rt, bk := k.nx, ct := R }) (e : En) (h : I 0 e) : forL mg mb (rngD 0 (n : Int)) e k := by
  refine forL_rec (fun ds e => ∃ j : Nat, j ≤ n ∧ ds = ((List.range n).drop j).map (fun i : Nat => PyData.int (i : Int)) ∧ I j e) ?_ ?_ _ _ ⟨0, Nat.zero_le _, ?_, h⟩
  · rintro e ⟨j, hj, hd, hi⟩
    have : ((List.range n).drop j).length = 0 := by
      have := congrArg List.length hd
      rw [List.length_map] at this
      exact this.symm
    rw [List.length_drop, List.length_range] at this
    have e1 : j = n := by omega
    subst e1
    exact h0 e hi
  · rintro d ds e R ⟨j, hj, hd, hi⟩ hR
    have hl : j < n := by
      rcases Nat.lt_or_ge j n with z | z
      · exact z
      · rw [List.drop_eq_nil_of_le (by rw [List.length_range]; exact z)] at hd
        cases hd
    rw [List.drop_eq_getElem_cons (by rw [List.length_range]; exact hl), List.map_cons] at hd
    injection hd with h1 h2
    subst h1 h2
    rw [List.getElem_range]
    exact hs j e R hl hi fun e' hi' => hR e' ⟨j + 1, hl, rfl, hi'⟩
  · rw [rngD_nat, List.drop_zero]
    exact List.map_congr_left fun i _ => by rw [Int.zero_add]
end Fd

set_option Elab.async false
set_option linter.all false
set_option maxRecDepth 100000
set_option maxHeartbeats 4000000
/-! Fd, part 6: sorted of a tuple of ints. -/
namespace Fd
open PySem PySem.Spec PyProof.Rows
section
variable {prog : Program} {w : World} {A : Around} {E : Value → Shared → Prop} {s : Shared}
theorem collect_tupV {l : Addr} {vs : List Value} {Q : List Value → Shared → Prop} (hl : s.heap.IsTuple l vs.toArray) (hz : vs.length ≤ sizeLine)
    (h : Q vs { s with heap := (s.heap.push (seqObj "list" #[] 0)).update s.heap.objs.size (Obj.mapSeq (· ++ vs.toArray)) }) : wpAny (model prog w) A (collect (.ref l)) Q E s := by
  obtain ⟨o, ho, hc, n, hd⟩ := id hl
  have ho' : (s.heap.push (seqObj "list" #[] 0)).get? l = some o := Heap.get?_push_of_some _ ho
  have hq : (s.heap.push (seqObj "list" #[] 0)).get? s.heap.objs.size = some (seqObj "list" #[] 0) := Heap.get?_push_size _ rfl
  have ez : ((#[] : Array Value) ++ vs.toArray).toList = vs := by simp
  unfold collect
  refine wpAny_bind (wpAny_runValue (codeAny_builtin entry_proto_collect' ?_))
  show wpAny _ _ (newList [] >>= fun x => again (.builtin "list.__iadd__" ⟨[x, .ref l], []⟩)) _ _ s
  refine wpAny_bind (wpAny_newList (wpAny_pure ⟨Code.quiet_builtin _ (by decide +kernel), codeAny_builtin entry_list_iadd' ?_⟩))
  show wpAny _ _ (Builtin.List.listExtendWith (.ref s.heap.objs.size) (.ref l) (.ref s.heap.objs.size)) _ _ { s with heap := s.heap.push (seqObj "list" #[] 0) }
  unfold Builtin.List.listExtendWith
  refine wpAny_bind (wpAny_typeOf (T := "tuple") ⟨o, ho', hc⟩ ?_)
  rw [if_pos (by simp)]
  refine wpAny_bind (listItems_at ho' hd (wpAny_bind (listItems_at (xs := #[]) (n := 0) hq rfl ?_)))
  rw [if_neg (by simp)]
  refine wpAny_bind (listUpdate_at (xs := #[]) (n := 0) hq rfl (wpAny_pure ?_) (Nat.zero_le _) (by show (#[] ++ vs.toArray).size ≤ sizeLine + 1; simp only [Array.size_append, List.size_toArray, List.length_nil]; omega))
  show wpAny (model prog w) A (load s.heap.objs.size >>= _) Q E _
  refine wpAny_bind (wpAny_load (get?_update_seq hq _) ?_)
  show wpAny _ _ (pure ((#[] : Array Value) ++ vs.toArray).toList) Q E _
  rw [ez]
  exact wpAny_pure h
theorem sorted_tupI {l : Addr} {vs : List Value} {ns : List Int} {Q : Value → Shared → Prop} (hl : s.heap.IsTuple l vs.toArray) (hI : IntsAre vs ns) (hz : vs.length ≤ sizeLine)
    (h : ∀ (out : List Value) (ns' : List Int), IntsAre out ns' → ns'.Perm ns → ns'.Pairwise (· ≤ ·) → Q (.ref (s.heap.objs.size + 1)) { s with heap := sortedAll s.heap vs out.toArray }) :
    wpAny (model prog w) A (call (.builtin "sorted") [.ref l]) Q E s := by
  refine Calls.call_function_entry kind_sorted plain_sorted entry_sorted (args_sorted1 _) ?_
  unfold Builtin.«sorted»
  refine wpAny_bind (m := checkCount "sorted" 1 1 _) (wpAny_pure (wpAny_bind (collect_tupV hl hz (wpAny_bind (wpAny_newList ?_ hz)))))
  have hsz : ((s.heap.push (seqObj "list" #[] 0)).update s.heap.objs.size (Obj.mapSeq (· ++ vs.toArray))).objs.size = s.heap.objs.size + 1 := by
    rw [Heap.size_update, size_push']
  have hoL : (((s.heap.push (seqObj "list" #[] 0)).update s.heap.objs.size (Obj.mapSeq (· ++ vs.toArray))).push (seqObj "list" vs.toArray 0)).get? (s.heap.objs.size + 1) = some (seqObj "list" vs.toArray 0) := by
    rw [← hsz]; exact Heap.get?_push_size _ rfl
  show wpAny _ _ _ _ _ { s with heap := ((s.heap.push (seqObj "list" #[] 0)).update s.heap.objs.size (Obj.mapSeq (· ++ vs.toArray))).push (seqObj "list" vs.toArray 0) }
  rw [hsz]
  refine wpAny_bind (wpAny_holding (wpAny_call_entry slot_list_sort ⟨_, hoL, rfl⟩ entry_list_sort (SrtO.list_sort_ord SrtO.swo_int hoL hz (fun h2 => SrtO.ints_sortable hI h2) fun out hs hb => ⟨_, rfl, ?_⟩) (args_list_sort _)))
  obtain ⟨k1, k2, k3⟩ := SrtO.ints_out hI hs hb
  exact wpAny_pure ⟨_, rfl, h out _ k1 k2 k3⟩
end
open L2
def rSortedIT (K : PySem.W.Frag) : List V → Hp → VK → Prop := fun vs H Q => ∃ (a : Addr) (ns : List Int), vs = [V.ref a] ∧ SqT K H a (ns.map V.int) ∧
  ∀ (ns' : List Int) (p : Addr), ns'.Perm ns → ns'.Pairwise (· ≤ ·) → H p = none → Q (.ref p) (upd H p (.lst (ns'.map V.int)))
section
variable {X : Cx}
theorem cr_sortedIT : CallR X (.builtin "sorted") (rSortedIT X.K) := by
  intro pins s σ H vs us Q I r h
  obtain ⟨a, ns, rfl, hs, q⟩ := h
  obtain ⟨its, rv, hl, hz⟩ := I.tuple hs
  rw [Vals.ref1 r]
  have hi := rv.ints
  refine sorted_tupI hl hi (by rw [← rv.length]; exact hz) fun out ns' k1 k2 k3 => ?_
  obtain ⟨ep, he'⟩ := PyProof.Rows.sortedAll_at s.heap its out.toArray
  have hlen : (ns'.map V.int).length ≤ sizeLine := by
    rw [List.length_map, k2.length_eq]
    rw [List.length_map] at hz
    exact hz
  exact ⟨.ref _, upd H (s.heap.objs.size + 1) (.lst (ns'.map V.int)), I.laid (t' := s.toks) (fun _ _ => PyProof.Rows.sortedAll_old) (Nat.le_succ _) ⟨hlen, out, ep, vals_of_ints k1, he'⟩, rfl, q _ _ k2 k3 (I.hok.fresh (Nat.le_succ _))⟩
variable {B : Bs} {a : Expr} {ml : ML} {fa : Cst} {pos p : Pos}
/-- sorted(t), t a tuple of ints -/
theorem xo_sortedIT (ha : XL X B a ml fa) (hm : X.mg "sorted" = none) (hg : Gl X "sorted" := by rfl) (hs : starEach [a] X.env = (false, eval a X.env) :: starEach [] X.env := by rfl) (hpl : (backTo pos (starEach [] X.env)).any (·.1) = false := by rfl) :
    XO X B (.Call (.Name "sorted" p) [a] [] pos) (fun e Q => ml e fun k ds => onIs (fun ns => k = .tup ∧ ∀ ns' : List Int, ns'.Perm ns → ns'.Pairwise (· ≤ ·) → Q (ns'.map .int)) ds) fa :=
  ⟨fun e P P' h q => ha.mono e _ _ (fun k ds q => onIs_mono (fun _ q => ⟨q.1, fun ns' h1 h2 => h _ (q.2 ns' h1 h2)⟩) ds q) q, peW (pe_callB cr_sortedIT hg hm (by decide +kernel) (one_arg ha.pe hs) (he := hs) (hpl := hpl)) fun σ H Q ⟨e, G, bq, r, h⟩ => ha.go r h fun k ds q v H1 G1 r1 x1 d1 => by
    obtain ⟨ns, rfl, q1, q2⟩ := onIs_out q
    subst q1
    obtain ⟨a, vs, rfl, sq, dd⟩ := d1
    have ev := dd.ints
    subst ev
    refine ⟨a, ns, rfl, .inl (.inl (r1.sub _ _ sq)), fun ns' p h1 h2 hp => ?_⟩
    exact q2 ns' h1 h2 p _ _ _ (r1.laid hp _) (x1.trans (nxt_only hp _)) (ext_both x1.ext hp (r1.nopot hp)) (r1.gold hp) upd_same (dats_ints ns')⟩
end
end Fd

set_option Elab.async false
set_option linter.all false
set_option maxRecDepth 100000
set_option maxHeartbeats 4000000
/-! Fd, part 7: zip of a list and a tuple, in either order (b: it is a tuple). -/
namespace Fd
open PySem PySem.Spec PyProof.Rows
open PySem.Sem (wp)
def ItB (b : Bool) (h : Heap) (it l : Addr) (k : Nat) : Prop := match b with
  | true => h.IsTupleIter it l k
  | false => h.IsListIter it l k
def SeqB (b : Bool) (h : Heap) (l : Addr) (xs : Array Value) : Prop := match b with
  | true => h.IsTuple l xs
  | false => h.IsList l xs
theorem ItB.at {b : Bool} {h h' : Heap} {it l : Addr} {k : Nat} (x : ItB b h it l k) (e : ∀ o, h.get? it = some o → h'.get? it = some o) : ItB b h' it l k := by
  cases b with
  | true => exact Heap.IsTupleIter.at x e
  | false => exact Heap.IsListIter.at x e
theorem SeqB.at {b : Bool} {h h' : Heap} {l : Addr} {xs : Array Value} (x : SeqB b h l xs) (e : ∀ o, h.get? l = some o → h'.get? l = some o) : SeqB b h' l xs := by
  cases b with
  | true => obtain ⟨o, ho, r⟩ := x; exact ⟨o, e _ ho, r⟩
  | false => obtain ⟨o, ho, r⟩ := x; exact ⟨o, e _ ho, r⟩
theorem ItB.ob {b : Bool} {h : Heap} {it l : Addr} {k : Nat} (x : ItB b h it l k) : ∃ o, h.get? it = some o ∧ ∀ v, o.data ≠ .cell v := by
  cases b with
  | true => obtain ⟨o, ho, _, hd⟩ := x; exact ⟨o, ho, fun v z => by rw [hd] at z; cases z⟩
  | false => obtain ⟨o, ho, _, hd⟩ := x; exact ⟨o, ho, fun v z => by rw [hd] at z; cases z⟩
theorem ItB.lt {b : Bool} {h : Heap} {it l : Addr} {k : Nat} (x : ItB b h it l k) : it < h.objs.size := by
  obtain ⟨o, ho, _⟩ := x.ob
  exact Heap.lt_size ho
theorem SeqB.lt {b : Bool} {h : Heap} {l : Addr} {xs : Array Value} (x : SeqB b h l xs) : l < h.objs.size := by
  cases b with
  | true => obtain ⟨o, ho, r⟩ := x; exact Heap.lt_size ho
  | false => obtain ⟨o, ho, r⟩ := x; exact Heap.lt_size ho
section
variable {prog : Program} {w : World} {A : Around} {E : Value → Shared → Prop} {s : Shared} {c1 c2 : Bool}
theorem nextB_item {it l : Addr} {i : Nat} {items : Array Value} {x : Value} {Q : Value → Shared → Prop} (hit : ItB c1 s.heap it l i) (hl : SeqB c1 s.heap l items) (hx : items[i]? = some x)
    (hQ : ∀ h', ItB c1 h' it l (i + 1) → Heap.SameBut it s.heap h' → Q x { s with heap := h' }) : wpAny (model prog w) A (Builtin.SmallTypes.nextOf (.ref it)) Q E s := by
  cases c1 with
  | true => exact RZ.nextOf_tuple_item hit hl hx hQ
  | false => exact wpAny_nextOf_list_item hit hl hx hQ
theorem nextB_end {it l : Addr} {i : Nat} {items : Array Value} {Q : Value → Shared → Prop} (hh : A.handled = none) (hit : ItB c1 s.heap it l i) (hl : SeqB c1 s.heap l items) (hx : items[i]? = none)
    (hE : ∀ h' e, Heap.ExtBut it s.heap h' → (∃ o, h'.get? e = some o ∧ o.cls = .type "StopIteration") → E (.ref e) { s with heap := h' }) : wpAny (model prog w) A (Builtin.SmallTypes.nextOf (.ref it)) Q E s := by
  cases c1 with
  | true => exact RZ.nextOf_tuple_end hh hit hl hx hE
  | false => exact wpAny_nextOf_list_end hh hit hl hx hE
theorem pyIterB {l : Addr} {items : Array Value} {Q : Value → Shared → Prop} (hl : SeqB c1 s.heap l items)
    (hQ : ∀ h', ItB c1 h' s.heap.objs.size l 0 → h'.objs.size = s.heap.objs.size + 1 → (∀ b o, s.heap.get? b = some o → h'.get? b = some o) → Q (.ref s.heap.objs.size) { s with heap := h' }) : wpAny (model prog w) A (pyIter (.ref l)) Q E s := by
  cases c1 with
  | true => exact wpAny_pyIter_tuple hl (hQ _ ⟨_, Heap.get?_push_size _ rfl, rfl, rfl⟩ (Heap.size_push ..) fun b o e => Heap.get?_push_of_some _ e)
  | false => exact wpAny_pyIter_list hl (hQ _ ⟨_, Heap.get?_push_size _ rfl, rfl, rfl⟩ (Heap.size_push ..) fun b o e => Heap.get?_push_of_some _ e)
/-- what stands at a zip's turn -/
structure ZSt (c1 c2 : Bool) (h : Heap) (z TI TO i1 i2 l1 l2 : Addr) (k1 k2 : Nat) (xs ys : Array Value) : Prop where
  hz : IsZip h z TI TO .none
  hTI : IsPair h TI (.ref i1) (.ref i2)
  hTO : ∃ a b, IsPair h TO a b
  h1 : ItB c1 h i1 l1 k1
  h2 : ItB c2 h i2 l2 k2
  s1 : SeqB c1 h l1 xs
  s2 : SeqB c2 h l2 ys
variable {z TI TO i1 i2 l1 l2 : Addr} {k1 k2 : Nat} {xs ys : Array Value}
theorem zipB_item {x y : Value} {Q : Value → Shared → Prop} (D : ZipApart z TI TO i1 i2 l1 l2) (S : ZSt c1 c2 s.heap z TI TO i1 i2 l1 l2 k1 k2 xs ys) (hx : xs[k1]? = some x) (hy : ys[k2]? = some y)
    (hQ : ∀ h', IsZip h' z TI TO (rawInt s.heap.objs.size) → IsPair h' TO x y → ItB c1 h' i1 l1 (k1 + 1) → ItB c2 h' i2 l2 (k2 + 1) → IsPair h' s.heap.objs.size x y → h'.objs.size = s.heap.objs.size + 1 →
      (∀ c o, c ≠ z → c ≠ TO → c ≠ i1 → c ≠ i2 → s.heap.get? c = some o → h'.get? c = some o) → Q (.ref s.heap.objs.size) { s with heap := h' }) :
    wpAny (model prog w) A (Builtin.«zip.__next__» ⟨[.ref z], []⟩) (fun fin s' => ∃ v, fin = .done (.ret v) ∧ Q v s') E s := by
  obtain ⟨hz, hTI, ⟨a, b, hTO⟩, h1, h2, s1, s2⟩ := S
  show wpAny _ _ (field (.ref z) 2 >>= _) _ _ _
  refine wpAny_bind (wpAny_field hz rfl (x := .bool false) rfl ?_)
  show wpAny _ _ (field (.ref z) 3 >>= _) _ _ _
  refine wpAny_bind (wpAny_field hz rfl (x := .ref TI) rfl (wpAny_bind (wpAny_seqItems hTI rfl ?_)))
  show wpAny _ _ (Builtin.SmallTypes.ownedTupleIsFree (.ref z) >>= _) _ _ _
  refine wpAny_bind ?_
  unfold Builtin.SmallTypes.ownedTupleIsFree
  refine wpAny_bind (wpAny_field hz rfl (x := .none) rfl (wpAny_pure ?_))
  simp only [if_true]
  refine wpAny_bind (wpAny_rule (wpAny_bind (wpAny_field hz rfl (x := .ref TO) rfl (wpAny_bind (wpAny_setField_rec hz (by simp) fun g1 z1 e1 => ?_)))))
  replace z1 : IsZip g1 z TI TO .ellipsis := z1
  refine wpAny_bind ?_
  simp only [List.zipIdx_cons, List.zipIdx_nil, List.forIn_cons, List.forIn_nil]
  have n1 : ∀ c o, c ≠ z → s.heap.get? c = some o → g1.get? c = some o := fun c o hc e => e1.extBut _ _ hc e
  refine wpAny_bind (wpAny_bind (wpAny_onRaise ?_))
  show wpAny _ _ (Builtin.SmallTypes.nextOf (.ref i1) >>= _) _ _ _
  refine wpAny_bind (nextB_item (h1.at fun o e => n1 _ o D.i1z e) (s1.at fun o e => n1 _ o D.l1z e) hx fun g2 t2 e2 => wpAny_pure ?_)
  have n2 : ∀ c o, c ≠ z → c ≠ i1 → s.heap.get? c = some o → g2.get? c = some o := fun c o hc hc2 e => e2.extBut _ _ hc2 (n1 c o hc e)
  have T2 : IsPair g2 TO a b := n2 _ _ D.TOz D.TOi1 hTO
  refine wpAny_bind (wpAny_seqItems T2 rfl (wpAny_bind (wpAny_updateSeq_pair T2 fun g3 T3 e3 => ?_)))
  replace T3 : IsPair g3 TO x b := T3
  have n3 : ∀ c o, c ≠ z → c ≠ i1 → c ≠ TO → s.heap.get? c = some o → g3.get? c = some o := fun c o hc hc2 hc3 e => e3.extBut _ _ hc3 (n2 c o hc hc2 e)
  refine wpAny_bind (wpAny_letGo (wpAny_pure ?_))
  refine wpAny_bind (wpAny_bind (wpAny_onRaise ?_))
  show wpAny _ _ (Builtin.SmallTypes.nextOf (.ref i2) >>= _) _ _ _
  refine wpAny_bind (nextB_item (h2.at fun o e => n3 _ o D.i2z D.i12.symm D.TOi2.symm e) (s2.at fun o e => n3 _ o D.l2z D.l2i1 D.l2TO e) hy fun g4 t4 e4 => wpAny_pure ?_)
  have n4 : ∀ c o, c ≠ z → c ≠ i1 → c ≠ TO → c ≠ i2 → s.heap.get? c = some o → g4.get? c = some o := fun c o hc hc2 hc3 hc4 e => e4.extBut _ _ hc4 (n3 c o hc hc2 hc3 e)
  have T4 : IsPair g4 TO x b := e4.extBut _ _ D.TOi2 T3
  refine wpAny_bind (wpAny_seqItems T4 rfl (wpAny_bind (wpAny_updateSeq_pair T4 fun g5 T5 e5 => ?_)))
  replace T5 : IsPair g5 TO x y := T5
  refine wpAny_bind (wpAny_letGo (wpAny_pure (wpAny_pure ?_)))
  refine wpAny_bind (wpAny_seqItems T5 rfl (wpAny_bind (wpAny_newTuple ?_)))
  have n5 : ∀ c o, c ≠ z → c ≠ TO → c ≠ i1 → c ≠ i2 → s.heap.get? c = some o → g5.get? c = some o := fun c o hc hc3 hc2 hc4 e => e5.extBut _ _ hc3 (n4 c o hc hc2 hc3 hc4 e)
  have sz : g5.objs.size = s.heap.objs.size := by rw [e5.1, e4.1, e3.1, e2.1, e1.1]
  have z5 : IsZip g5 z TI TO .ellipsis := e5.extBut _ _ D.TOz.symm (e4.extBut _ _ D.i2z.symm (e3.extBut _ _ D.TOz.symm (e2.extBut _ _ D.i1z.symm z1)))
  have t1 : ItB c1 g5 i1 l1 (k1 + 1) := t2.at fun o e => e5.extBut _ _ D.TOi1.symm (e4.extBut _ _ D.i12 (e3.extBut _ _ D.TOi1.symm e))
  have t5 : ItB c2 g5 i2 l2 (k2 + 1) := t4.at fun o e => e5.extBut _ _ D.TOi2.symm e
  have zlt : z < g5.objs.size := Heap.lt_size z5
  show wpAny _ _ (Builtin.SmallTypes.ownedTupleHandOut (.ref z) (.ref g5.objs.size) >>= _) _ _ _
  refine wpAny_bind ?_
  unfold Builtin.SmallTypes.ownedTupleHandOut
  have z6 : IsZip (g5.push { cls := .type "tuple", data := .seq #[x, y] }) z TI TO .ellipsis := Heap.get?_push_of_some _ z5
  refine wpAny_bind (wpAny_setField_rec z6 (by simp) fun g7 z7 e7 => ?_)
  replace z7 : IsZip g7 z TI TO (rawInt g5.objs.size) := z7
  refine wpAny_setField_rec z7 (by simp) fun g8 z8 e8 => ?_
  replace z8 : IsZip g8 z TI TO (rawInt g5.objs.size) := z8
  have up : ∀ c o, c ≠ z → g5.get? c = some o → g8.get? c = some o := fun c o hc e => e8.extBut _ _ hc (e7.extBut _ _ hc (Heap.get?_push_of_some _ e))
  have p8 : IsPair g8 g5.objs.size x y := e8.extBut _ _ (Nat.ne_of_gt zlt) (e7.extBut _ _ (Nat.ne_of_gt zlt) (Heap.get?_push_size _ rfl))
  have s8 : g8.objs.size = g5.objs.size + 1 := by rw [e8.1, e7.1, Heap.size_push]
  rw [sz] at z8 p8 s8
  refine wpAny_pure ⟨_, rfl, ?_⟩
  show Q (.ref g5.objs.size) _
  rw [sz]
  exact hQ g8 z8 (up _ _ D.TOz T5) (t1.at fun o e => up _ o D.i1z e) (t5.at fun o e => up _ o D.i2z e) p8 s8 fun c o q1 q2 q3 q4 e => up c o q1 (n5 c o q1 q2 q3 q4 e)
theorem zipB_end {Q : Fin → Shared → Prop} (hh : A.handled = none) (D : ZipApart z TI TO i1 i2 l1 l2) (S : ZSt c1 c2 s.heap z TI TO i1 i2 l1 l2 k1 k2 xs ys) (hend : xs[k1]? = none ∨ ys[k2]? = none)
    (hE : ∀ h' e, (∀ c o, c ≠ z → c ≠ TO → c ≠ i1 → c ≠ i2 → s.heap.get? c = some o → h'.get? c = some o) → (∃ o, h'.get? e = some o ∧ o.cls = .type "StopIteration") → E (.ref e) { s with heap := h' }) :
    wpAny (model prog w) A (Builtin.«zip.__next__» ⟨[.ref z], []⟩) Q E s := by
  obtain ⟨hz, hTI, ⟨a, b, hTO⟩, h1, h2, s1, s2⟩ := S
  show wpAny _ _ (field (.ref z) 2 >>= _) _ _ _
  refine wpAny_bind (wpAny_field hz rfl (x := .bool false) rfl ?_)
  show wpAny _ _ (field (.ref z) 3 >>= _) _ _ _
  refine wpAny_bind (wpAny_field hz rfl (x := .ref TI) rfl (wpAny_bind (wpAny_seqItems hTI rfl ?_)))
  show wpAny _ _ (Builtin.SmallTypes.ownedTupleIsFree (.ref z) >>= _) _ _ _
  refine wpAny_bind ?_
  unfold Builtin.SmallTypes.ownedTupleIsFree
  refine wpAny_bind (wpAny_field hz rfl (x := .none) rfl (wpAny_pure ?_))
  simp only [if_true]
  refine wpAny_bind (wpAny_rule (wpAny_bind (wpAny_field hz rfl (x := .ref TO) rfl (wpAny_bind (wpAny_setField_rec hz (by simp) fun g1 z1 e1 => ?_)))))
  replace z1 : IsZip g1 z TI TO .ellipsis := z1
  refine wpAny_bind ?_
  simp only [List.zipIdx_cons, List.zipIdx_nil, List.forIn_cons, List.forIn_nil]
  have n1 : ∀ c o, c ≠ z → s.heap.get? c = some o → g1.get? c = some o := fun c o hc e => e1.extBut _ _ hc e
  refine wpAny_bind (wpAny_bind (wpAny_onRaise ?_))
  show wpAny _ _ (Builtin.SmallTypes.nextOf (.ref i1) >>= _) _ _ _
  have stop : ∀ (g : Heap) (e : Addr), IsZip g z TI TO .ellipsis → (∃ o, g.get? e = some o ∧ o.cls = .type "StopIteration") → e ≠ z := fun g e hg ⟨o, ho, hc⟩ q => by
    subst q
    rw [hg] at ho
    cases ho
    simp at hc
  cases hx : xs[k1]? with
  | none =>
    refine wpAny_bind (nextB_end hh (h1.at fun o e => n1 _ o D.i1z e) (s1.at fun o e => n1 _ o D.l1z e) hx fun g2 e e2 he => ?_)
    have z2 : IsZip g2 z TI TO .ellipsis := e2 _ _ D.i1z.symm z1
    have ez := stop g2 e z2 he
    obtain ⟨oe, hoe, hce⟩ := he
    exact wpAny_setField_rec z2 (by simp) fun g3 _ e3 => hE g3 e (fun c o q1 _ q3 _ q => e3.extBut _ _ q1 (e2 _ _ q3 (n1 c o q1 q))) ⟨oe, e3.extBut _ _ ez hoe, hce⟩
  | some x =>
    have hy : ys[k2]? = none := by
      rcases hend with h | h
      · rw [hx] at h; cases h
      · exact h
    refine wpAny_bind (nextB_item (h1.at fun o e => n1 _ o D.i1z e) (s1.at fun o e => n1 _ o D.l1z e) hx fun g2 t2 e2 => wpAny_pure ?_)
    have n2 : ∀ c o, c ≠ z → c ≠ i1 → s.heap.get? c = some o → g2.get? c = some o := fun c o hc hc2 e => e2.extBut _ _ hc2 (n1 c o hc e)
    have T2 : IsPair g2 TO a b := n2 _ _ D.TOz D.TOi1 hTO
    refine wpAny_bind (wpAny_seqItems T2 rfl (wpAny_bind (wpAny_updateSeq_pair T2 fun g3 T3 e3 => ?_)))
    have n3 : ∀ c o, c ≠ z → c ≠ i1 → c ≠ TO → s.heap.get? c = some o → g3.get? c = some o := fun c o hc hc2 hc3 e => e3.extBut _ _ hc3 (n2 c o hc hc2 e)
    refine wpAny_bind (wpAny_letGo (wpAny_pure ?_))
    refine wpAny_bind (wpAny_bind (wpAny_onRaise ?_))
    show wpAny _ _ (Builtin.SmallTypes.nextOf (.ref i2) >>= _) _ _ _
    refine wpAny_bind (nextB_end hh (h2.at fun o e => n3 _ o D.i2z D.i12.symm D.TOi2.symm e) (s2.at fun o e => n3 _ o D.l2z D.l2i1 D.l2TO e) hy fun g4 e e4 he => ?_)
    have z4 : IsZip g4 z TI TO .ellipsis := e4 _ _ D.i2z.symm (e3.extBut _ _ D.TOz.symm (e2.extBut _ _ D.i1z.symm z1))
    have ez := stop g4 e z4 he
    obtain ⟨oe, hoe, hce⟩ := he
    exact wpAny_setField_rec z4 (by simp) fun g5 _ e5 => hE g5 e (fun c o q1 q2 q3 q4 q => e5.extBut _ _ q1 (e4 _ _ q4 (n3 c o q1 q3 q2 q))) ⟨oe, e5.extBut _ _ ez hoe, hce⟩
theorem pyNextB_item {x y : Value} {Q : Option Value → Shared → Prop} (D : ZipApart z TI TO i1 i2 l1 l2) (S : ZSt c1 c2 s.heap z TI TO i1 i2 l1 l2 k1 k2 xs ys) (hx : xs[k1]? = some x) (hy : ys[k2]? = some y)
    (hQ : ∀ h', IsZip h' z TI TO (rawInt s.heap.objs.size) → IsPair h' TO x y → ItB c1 h' i1 l1 (k1 + 1) → ItB c2 h' i2 l2 (k2 + 1) → IsPair h' s.heap.objs.size x y → h'.objs.size = s.heap.objs.size + 1 →
      (∀ c o, c ≠ z → c ≠ TO → c ≠ i1 → c ≠ i2 → s.heap.get? c = some o → h'.get? c = some o) → Q (some (.ref s.heap.objs.size)) { s with heap := h' }) : wpAny (model prog w) A (pyNext (.ref z)) Q E s := by
  have hT : s.TypeIs (.ref z) "zip" := ⟨_, S.hz, rfl⟩
  unfold pyNext
  exact wpAny_bind (wpAny_attempt (wpAny_callSpecial?_slot (name := Str.ofString "__next__") hT F.slot_zip_next (wpAny_call_entry F.slot_zip_next hT F.entry_zip_next
    (zipB_item D S hx hy fun h' a1 a2 a3 a4 a5 a6 a7 => wpAny_pure (hQ h' a1 a2 a3 a4 a5 a6 a7)) (F.args_zip_next_1 _))))
theorem pyNextB_end {Q : Option Value → Shared → Prop} (hh : A.handled = none) (D : ZipApart z TI TO i1 i2 l1 l2) (S : ZSt c1 c2 s.heap z TI TO i1 i2 l1 l2 k1 k2 xs ys) (hend : xs[k1]? = none ∨ ys[k2]? = none)
    (hQ : ∀ h', (∀ c o, c ≠ z → c ≠ TO → c ≠ i1 → c ≠ i2 → s.heap.get? c = some o → h'.get? c = some o) → Q none { s with heap := h' }) : wpAny (model prog w) A (pyNext (.ref z)) Q E s := by
  have hT : s.TypeIs (.ref z) "zip" := ⟨_, S.hz, rfl⟩
  unfold pyNext
  refine wpAny_bind (wpAny_attempt (wpAny_callSpecial?_slot (name := Str.ofString "__next__") hT F.slot_zip_next (wpAny_call_entry F.slot_zip_next hT F.entry_zip_next
    (zipB_end hh D S hend fun h' e hk he => ?_) (F.args_zip_next_1 _))))
  obtain ⟨o, ho, hc⟩ := he
  exact wpAny_bind (wpAny_isInstance (T := "StopIteration") (b := true) ⟨o, ho, hc⟩ isSubtype_stop (wpAny_pure (hQ _ hk)))
end
/-! ### zip(a, b) is made -/
def itO (b : Bool) (l : Addr) : Obj := { cls := .type (match b with | true => "tuple_iterator" | false => "list_iterator"), data := .fields #[.ref l, .int 0 0] }
def zA (c1 : Bool) (h : Heap) (l1 : Addr) : Heap := h.push (itO c1 l1)
def zB (c1 c2 : Bool) (h : Heap) (l1 l2 : Addr) : Heap := (zA c1 h l1).push (itO c2 l2)
def zC (c1 c2 : Bool) (h : Heap) (l1 l2 : Addr) : Heap := (zB c1 c2 h l1 l2).push { cls := .type "tuple", data := .seq #[.ref h.objs.size, .ref (zA c1 h l1).objs.size] }
def zD (c1 c2 : Bool) (h : Heap) (l1 l2 : Addr) : Heap := (zC c1 c2 h l1 l2).push { cls := .type "tuple", data := .seq #[.none, .none] }
def zE (c1 c2 : Bool) (h : Heap) (l1 l2 : Addr) : Heap := (zD c1 c2 h l1 l2).push { cls := .type "zip", data := .fields #[.none, .bool false, .bool false, .ref (zB c1 c2 h l1 l2).objs.size, .ref (zC c1 c2 h l1 l2).objs.size] }
theorem meets_zipB (c1 c2 : Bool) (l1 l2 : Addr) (xs ys : Array Value) :
    Meets (Builtin.«zip.__new__» ⟨[.type "zip", .ref l1, .ref l2], []⟩) (fun _ R s => SeqB c1 s.heap l1 xs ∧ SeqB c2 s.heap l2 ys ∧ R (.ok (.ret (.ref (zD c1 c2 s.heap l1 l2).objs.size))) { s with heap := zE c1 c2 s.heap l1 l2 }) :=
  .of_wp fun prog w A R s h => by
    obtain ⟨hp, g, d, tk, os⟩ := s
    obtain ⟨hl1, hl2, h⟩ := h
    have hsub := sub_zip
    cases c1 with
    | false =>
      have q1 : Heap.IsList (Shared.heap ⟨hp, g, d, tk, os⟩) l1 xs := hl1
      cases c2 with
      | false =>
        have q2 : Heap.IsList (Shared.heap ⟨hp.push { cls := .type "list_iterator", data := .fields #[.ref l1, .int 0 0] }, g, d, tk, os⟩) l2 ys := Heap.IsList.push hl2 _
        wp_walk using wpAny_pyIter_list q1, wpAny_pyIter_list q2
        exact ⟨_, rfl, h⟩
      | true =>
        have q2 : Heap.IsTuple (Shared.heap ⟨hp.push { cls := .type "list_iterator", data := .fields #[.ref l1, .int 0 0] }, g, d, tk, os⟩) l2 ys := Heap.IsTuple.push hl2 _
        wp_walk using wpAny_pyIter_list q1, wpAny_pyIter_tuple q2
        exact ⟨_, rfl, h⟩
    | true =>
      have q1 : Heap.IsTuple (Shared.heap ⟨hp, g, d, tk, os⟩) l1 xs := hl1
      cases c2 with
      | false =>
        have q2 : Heap.IsList (Shared.heap ⟨hp.push { cls := .type "tuple_iterator", data := .fields #[.ref l1, .int 0 0] }, g, d, tk, os⟩) l2 ys := Heap.IsList.push hl2 _
        wp_walk using wpAny_pyIter_tuple q1, wpAny_pyIter_list q2
        exact ⟨_, rfl, h⟩
      | true =>
        have q2 : Heap.IsTuple (Shared.heap ⟨hp.push { cls := .type "tuple_iterator", data := .fields #[.ref l1, .int 0 0] }, g, d, tk, os⟩) l2 ys := Heap.IsTuple.push hl2 _
        wp_walk using wpAny_pyIter_tuple q1, wpAny_pyIter_tuple q2
        exact ⟨_, rfl, h⟩
theorem itB_new {b : Bool} {h : Heap} {it l : Addr} (e : h.get? it = some (itO b l)) : ItB b h it l 0 := by
  cases b with
  | true => exact ⟨_, e, rfl, rfl⟩
  | false => exact ⟨_, e, rfl, rfl⟩
section
variable {prog : Program} {w : World} {A : Around} {E : Value → Shared → Prop} {s : Shared} {c1 c2 : Bool}
theorem call_zipB {l1 l2 : Addr} {xs ys : Array Value} {Q : Value → Shared → Prop} (hl1 : SeqB c1 s.heap l1 xs) (hl2 : SeqB c2 s.heap l2 ys)
    (h : ∀ h', ZSt c1 c2 h' (s.heap.objs.size + 4) (s.heap.objs.size + 2) (s.heap.objs.size + 3) s.heap.objs.size (s.heap.objs.size + 1) l1 l2 0 0 xs ys → h'.objs.size = s.heap.objs.size + 5 →
      (∀ c o, s.heap.get? c = some o → h'.get? c = some o) → Q (.ref (s.heap.objs.size + 4)) { s with heap := h' }) : wpAny (model prog w) A (call (.type "zip") [.ref l1, .ref l2]) Q E s := by
  refine callType_new F.called_zip (by decide) (F.typeCall_zip_2 _ _) (F.newCall_zip_2 _ _) (fun obj => F.args_object_init_3 obj _ _) F.entry_zip_new (meets_zipB c1 c2 l1 l2 xs ys) ⟨hl1, hl2, ?_⟩
  have a1 : (zA c1 s.heap l1).objs.size = s.heap.objs.size + 1 := Heap.size_push ..
  have a2 : (zB c1 c2 s.heap l1 l2).objs.size = s.heap.objs.size + 2 := by unfold zB; rw [Heap.size_push, a1]
  have a3 : (zC c1 c2 s.heap l1 l2).objs.size = s.heap.objs.size + 3 := by unfold zC; rw [Heap.size_push, a2]
  have a4 : (zD c1 c2 s.heap l1 l2).objs.size = s.heap.objs.size + 4 := by unfold zD; rw [Heap.size_push, a3]
  have a5 : (zE c1 c2 s.heap l1 l2).objs.size = s.heap.objs.size + 5 := by unfold zE; rw [Heap.size_push, a4]
  have up : ∀ c o, (zD c1 c2 s.heap l1 l2).get? c = some o → (zE c1 c2 s.heap l1 l2).get? c = some o := fun c o e => Heap.get?_push_of_some _ e
  have upC : ∀ c o, (zC c1 c2 s.heap l1 l2).get? c = some o → (zE c1 c2 s.heap l1 l2).get? c = some o := fun c o e => up _ _ (Heap.get?_push_of_some _ e)
  have upB : ∀ c o, (zB c1 c2 s.heap l1 l2).get? c = some o → (zE c1 c2 s.heap l1 l2).get? c = some o := fun c o e => upC _ _ (Heap.get?_push_of_some _ e)
  have upA : ∀ c o, (zA c1 s.heap l1).get? c = some o → (zE c1 c2 s.heap l1 l2).get? c = some o := fun c o e => upB _ _ (Heap.get?_push_of_some _ e)
  have up0 : ∀ c o, s.heap.get? c = some o → (zE c1 c2 s.heap l1 l2).get? c = some o := fun c o e => upA _ _ (Heap.get?_push_of_some _ e)
  have g5 : (zE c1 c2 s.heap l1 l2).get? (zD c1 c2 s.heap l1 l2).objs.size = some _ := Heap.get?_push_size _ rfl
  have g4 : (zE c1 c2 s.heap l1 l2).get? (zC c1 c2 s.heap l1 l2).objs.size = some _ := up _ _ (Heap.get?_push_size _ rfl)
  have g3 : (zE c1 c2 s.heap l1 l2).get? (zB c1 c2 s.heap l1 l2).objs.size = some _ := upC _ _ (Heap.get?_push_size _ rfl)
  have g2 : (zE c1 c2 s.heap l1 l2).get? (zA c1 s.heap l1).objs.size = some (itO c2 l2) := upB _ _ (Heap.get?_push_size _ rfl)
  have g1 : (zE c1 c2 s.heap l1 l2).get? s.heap.objs.size = some (itO c1 l1) := upA _ _ (Heap.get?_push_size _ rfl)
  show _ ∧ _
  rw [a2, a3, a4] at g5
  rw [a1, a2] at g3
  rw [a3] at g4
  rw [a1] at g2
  rw [a4]
  exact ⟨⟨_, g5, rfl⟩, h _ ⟨g5, g3, ⟨_, _, g4⟩, itB_new g1, itB_new g2, hl1.at fun o e => up0 _ o e, hl2.at fun o e => up0 _ o e⟩ a5 up0⟩
end
/-! ### as a rule -/
open L2
/-- a sequence of H: a tuple | a list -/
def SqKB (K : PySem.W.Frag) (b : Bool) (H : Hp) (a : Addr) (xs : List V) : Prop := match b with
  | true => SqT K H a xs
  | false => SqL K H a xs
theorem seqKB {X : Cx} {pins : List (Addr × Obj)} {σ : L2.St} {H : Hp} {s : Shared} (I : Inv X pins σ H s) {b : Bool} {a : Addr} {xs : List V} (h : SqKB X.K b H a xs) : ∃ its : List Value, Vals xs its ∧ SeqB b s.heap a its.toArray := by
  cases b with
  | true => obtain ⟨its, rv, p, _⟩ := I.tuple h; exact ⟨its, rv, p⟩
  | false => obtain ⟨its, rv, p, _⟩ := I.list h; exact ⟨its, rv, p.isList⟩
theorem seqKB_inj {X : Cx} {pins : List (Addr × Obj)} {σ : L2.St} {H : Hp} {s : Shared} (I : Inv X pins σ H s) {b : Bool} {a : Addr} {xs ys : List V} (h : SqKB X.K b H a xs) (h' : SqKB X.K b H a ys) : xs = ys := by
  cases b with
  | true => exact I.tuple_inj h h'
  | false => exact I.list_inj h h'
def ItzB (K : PySem.W.Frag) (c1 c2 : Bool) (a b : Addr) : It :=
  ⟨fun i H => ∃ (xs ys : List V) (x y : V), SqKB K c1 H a xs ∧ SqKB K c2 H b ys ∧ xs[i]? = some x ∧ ys[i]? = some y,
    fun i H v H' => ∃ T x y, v = .ref T ∧ H T = none ∧ H' = upd H T (.tup [x, y]) ∧ (∀ xs, SqKB K c1 H a xs → xs[i]? = some x) ∧ ∀ ys, SqKB K c2 H b ys → ys[i]? = some y,
    fun i H => ∃ xs ys : List V, SqKB K c1 H a xs ∧ SqKB K c2 H b ys ∧ (xs.length ≤ i ∨ ys.length ≤ i)⟩
theorem turn_zipB {P : Program} {w : World} {K : PySem.W.Frag} {elts : List Expr} {kk : Nat} {tpos : Pos} {c1 c2 : Bool} {a b z TI TO i1 i2 : Addr} (D : ZipApart z TI TO i1 i2 a b) :
    Turn P w K (.Tuple elts kk tpos) (ItzB K c1 c2 a b) [z, TI, TO, i1, i2] z (fun i h => IsZip h z TI TO .none ∧ IsPair h TI (.ref i1) (.ref i2) ∧ (∃ x y, IsPair h TO x y) ∧ ItB c1 h i1 a i ∧ ItB c2 h i2 b i) where
  mem := by simp
  obj := fun i h st c hc => by
    obtain ⟨hz, hTI, ⟨x, y, hTO⟩, t1, t2⟩ := st
    have e' : c = z ∨ c = TI ∨ c = TO ∨ c = i1 ∨ c = i2 := by simpa using hc
    rcases e' with q | q | q | q | q
    · rw [q]; exact ⟨_, hz, fun v q => nomatch q⟩
    · rw [q]; exact ⟨_, hTI, fun v q => nomatch q⟩
    · rw [q]; exact ⟨_, hTO, fun v q => nomatch q⟩
    · rw [q]; exact t1.ob
    · rw [q]; exact t2.ob
  keep := fun i h h' st k => by
    obtain ⟨hz, hTI, ⟨x, y, hTO⟩, h1, h2⟩ := st
    exact ⟨k z (by simp) _ hz, k TI (by simp) _ hTI, ⟨x, y, k TO (by simp) _ hTO⟩, h1.at fun o q => k i1 (by simp) o q, h2.at fun o q => k i2 (by simp) o q⟩
  item := by
    intro X hP hw hK hc i pins s σ H E I hf st hg
    subst hP hw hK
    obtain ⟨hz, hTI, hTO, h1, h2⟩ := st
    obtain ⟨xs, ys, x, y, hqx, hqy, hx, hy⟩ := hg
    obtain ⟨its, rv, p⟩ := seqKB I hqx
    obtain ⟨its2, rv2, p2⟩ := seqKB I hqy
    obtain ⟨u, hu, ru⟩ := rv.get hx
    obtain ⟨u2, hu2, ru2⟩ := rv2.get hy
    have hzl : z < s.heap.objs.size := Heap.lt_size hz
    have lt : ∀ c, c ∈ [z, TI, TO, i1, i2] → c < s.heap.objs.size := fun c hcm => by
      obtain ⟨x0, y0, hTO⟩ := hTO
      have e' : c = z ∨ c = TI ∨ c = TO ∨ c = i1 ∨ c = i2 := by simpa using hcm
      rcases e' with q | q | q | q | q
      · rw [q]; exact hzl
      · rw [q]; exact Heap.lt_size hTI
      · rw [q]; exact Heap.lt_size hTO
      · rw [q]; exact h1.lt
      · rw [q]; exact h2.lt
    refine pyNextB_item D ⟨hz, hTI, hTO, h1, h2, p, p2⟩ (x := u) (y := u2) (by simpa using hu) (by simpa using hu2) fun h' z' TO' h1' h2' hT hsz hk => ?_
    refine ⟨_, rfl, wpAny_letOwnedTupleGo_zip (s := { s with heap := h' }) z' fun h'' z'' sb => ?_⟩
    have hT2 : h''.get? s.heap.objs.size = some { cls := .type "tuple", data := .seq #[u, u2] } := (sb.2 _ (Nat.ne_of_gt hzl)).trans hT
    have new : ObjOk X.prog X.w (upd H s.heap.objs.size (.tup [x, y])) h'' s.heap.objs.size (.tup [x, y]) :=
      ⟨by show 2 ≤ sizeLine; decide, [u, u2], .cons ru (.cons ru2 .nil), ⟨_, hT2, rfl, _, rfl⟩⟩
    have I1 : Inv X pins σ (upd H s.heap.objs.size (.tup [x, y])) { s with heap := h'' } :=
      I.turnedNew (t' := s.toks) (ch := [z, TI, TO, i1, i2]) (fun c o hb q => (sb.2 c (fun q' => hb (by simp [q']))).trans (hk c o (fun q' => hb (by simp [q'])) (fun q' => hb (by simp [q'])) (fun q' => hb (by simp [q'])) (fun q' => hb (by simp [q'])) q)) hf (Nat.le_refl _) new
    refine ⟨.ref s.heap.objs.size, _, I1, rfl, ⟨_, x, y, rfl, I.hok.fresh (Nat.le_refl _), rfl, fun l hl => by rw [seqKB_inj I hl hqx]; exact hx, fun l hl => by rw [seqKB_inj I hl hqy]; exact hy⟩, ⟨z'', ?_, ⟨u, u2, ?_⟩, ?_, ?_⟩, fun c hcm => ?_⟩
    · exact (sb.2 _ D.TIz).trans (hk _ _ D.TIz D.TITO D.TIi1 D.TIi2 hTI)
    · exact (sb.2 _ D.TOz).trans TO'
    · exact h1'.at fun o q => (sb.2 _ D.i1z).trans q
    · exact h2'.at fun o q => (sb.2 _ D.i2z).trans q
    · rw [upd_ne (Nat.ne_of_lt (lt c hcm))]
      exact (hf c hcm).1
  done := by
    intro X hP hw hK hc i pins s σ H E I hf st hg
    subst hP hw hK
    obtain ⟨hz, hTI, hTO, h1, h2⟩ := st
    obtain ⟨xs, ys, hqx, hqy, hend⟩ := hg
    obtain ⟨its, rv, p⟩ := seqKB I hqx
    obtain ⟨its2, rv2, p2⟩ := seqKB I hqy
    have l1 := rv.length
    have l2 := rv2.length
    have he : its.toArray[i]? = none ∨ its2.toArray[i]? = none := by
      rcases hend with q | q
      · exact .inl (by simp; omega)
      · exact .inr (by simp; omega)
    exact pyNextB_end (I.ok.hd hc) D ⟨hz, hTI, hTO, h1, h2, p, p2⟩ he fun h' hk => ⟨rfl, I.turnedL (t' := s.toks) (ch := [z, TI, TO, i1, i2]) (fun c o hb q =>
      hk c o (fun q' => hb (by simp [q'])) (fun q' => hb (by simp [q'])) (fun q' => hb (by simp [q'])) (fun q' => hb (by simp [q'])) q) hf⟩
  self := fun A i s Q E st h => wpAny_pyIter_zip st.1 h
def iZipB (K : PySem.W.Frag) (ta : TA) : TI := fun σ H R => ta σ H fun vs H1 => ∃ c1 c2 a b xs ys, vs = [.ref a, .ref b] ∧ SqKB K c1 H1 a xs ∧ SqKB K c2 H1 b ys ∧ R (ItzB K c1 c2 a b) H1
theorem pi_zipB {X : Cx} {e e2 : Expr} {ta : TA} {p pos tpos : Pos} {elts : List Expr} {kk : Nat} (hg : Gl X "zip") (hm : X.mg "zip" = none) (ha : PA X [e, e2] ta)
    (hs : starEach [e, e2] X.env = (false, eval e X.env) :: starEach [e2] X.env := by rfl) (hpl : (backTo pos (starEach [e2] X.env)).any (·.1) = false := by rfl) :
    PI X (.Tuple elts kk tpos) (.Call (.Name "zip" p) [e, e2] [] pos) (iZipB X.K ta) := by
  refine ⟨fun pins s σ H R I h => ?_⟩
  refine Call_ (ld_blt I hg hm PyProof.Rows.boot_zip (PyProof.Rows.callWith_type1 (thn (ha.run pos pins s σ H _ I h) fun us s1 ⟨vs, H1, I1, r1, q1⟩ => ?_) hs hpl))
  obtain ⟨c1, c2, a, b, xs, ys, ex, hqx, hqy, q⟩ := q1
  subst ex
  cases r1 with
  | cons r rr =>
    cases rr with
    | cons r' rr =>
      cases rr
      cases r
      cases r'
      have fresh5 : ∀ c, c ∈ [s1.heap.objs.size + 4, s1.heap.objs.size + 2, s1.heap.objs.size + 3, s1.heap.objs.size, s1.heap.objs.size + 1] → FpOk X pins H1 c := fun c hcm => by
        have hle : s1.heap.objs.size ≤ c := by
          simp only [List.mem_cons, List.not_mem_nil, or_false] at hcm
          omega
        exact I1.fpOk hle (I1.hok.fresh hle)
      obtain ⟨its, rv, p1⟩ := seqKB I1 hqx
      obtain ⟨its2, rv2, p2⟩ := seqKB I1 hqy
      refine call_zipB p1 p2 fun h' S hsz hk => wpAny_pyIter_zip S.hz ?_
      have I2 : Inv X pins σ H1 { s1 with heap := h' } := I1.kept (t' := s1.toks) hk
      exact ⟨s1.heap.objs.size + 4, [s1.heap.objs.size + 4, s1.heap.objs.size + 2, s1.heap.objs.size + 3, s1.heap.objs.size, s1.heap.objs.size + 1], _, _, H1, rfl, I2, turn_zipB (PySem.W.ktu_apart s1.heap.objs.size a b p1.lt p2.lt), ⟨S.hz, S.hTI, S.hTO, S.h1, S.h2⟩, fresh5, q⟩
section
variable {K : PySem.W.Frag}
theorem walk_zipB {c1 c2 : Bool} {a b : Addr} {vs ws : List V} {n : Nat} (hn : n = min vs.length ws.length) : Walk (ItzB K c1 c2 a b) n (fun H => SqKB K c1 H a vs ∧ SqKB K c2 H b ws) (YPair (fun i => vs[i]?) (fun i => ws[i]?)) := by
  subst hn
  refine ⟨fun i _ hi q => ?_, fun _ q => ⟨vs, ws, q.1, q.2, ?_⟩, fun i H v H' _ q y => ?_⟩
  · have k1 : i < vs.length := by omega
    have k2 : i < ws.length := by omega
    exact ⟨vs, ws, vs[i], ws[i], q.1, q.2, List.getElem?_eq_getElem k1, List.getElem?_eq_getElem k2⟩
  · omega
  · obtain ⟨T, u, z, h1, h2, h3, h4, h5⟩ := y
    exact ⟨T, u, z, h1, h2, h3, h4 vs q.1, h5 ws q.2⟩
theorem wk_zipB {G : Hp} {c1 c2 : Bool} {a b : Addr} {vs ws : List V} {ds es : List PyData} {C : Hp → Prop} (h : ∀ H, C H → SqKB K c1 H a vs) (h' : ∀ H, C H → SqKB K c2 H b ws) (d : Dats K G vs ds) (d' : Dats K G ws es) : WkD K G (ItzB K c1 c2 a b) (zipD ds es) C :=
  ⟨_, by rw [zipD_len, ← d.len, ← d'.len]; exact (walk_zipB rfl).mono (fun H c => ⟨h H c, h' H c⟩) fun i H x H' _ _ y => y, fun i H x H' dd _ y e => yld_pair d d' y e⟩
def isT : Kd → Bool
  | .tup => true
  | _ => false
variable {X : Cx} {B : Bs} {a b : Expr} {ml ml' : ML} {fa fb : Cst} {pos p tpos : Pos} {elts : List Expr} {kk : Nat}
theorem SqD.ltB {pt : Pt} {G H : Hp} {v : V} {k : Kd} {ds : List PyData} (h : SqD K pt G H v k ds) (sub : Same G H) (gp : ∀ a ∈ pt.pots, G a = none) : ∃ a vs, v = .ref a ∧ Dats K G vs ds ∧ ∀ H', Ext pt H H' → SqKB K (isT k) H' a vs := by
  obtain ⟨a, vs, e, d, h1, h2⟩ := h.lt sub gp
  refine ⟨a, vs, e, d, fun H' x => ?_⟩
  cases k with
  | tup => exact h2 rfl H' x
  | lst => exact h1 (fun z => nomatch z) H' x
  | scr => exact h1 (fun z => nomatch z) H' x
theorem SqG.ltB {G : Hp} {v : V} {k : Kd} {ds : List PyData} (h : SqG K G v k ds) : ∃ a vs, v = .ref a ∧ Dats K G vs ds ∧ ∀ H', Same G H' → SqKB K (isT k) H' a vs := by
  obtain ⟨a, vs, e, d, h1, h2⟩ := h.lt
  refine ⟨a, vs, e, d, fun H' x => ?_⟩
  cases k with
  | tup => exact h2 rfl H' x
  | lst => exact h1 (fun z => nomatch z) H' x
  | scr => exact h1 (fun z => nomatch z) H' x
/-- zip of lists and tuples, mixed -/
theorem xi_zipB (ha : XL X B a ml fa) (hb : XL X B b ml' fb) (hm : X.mg "zip" = none) (hg : Gl X "zip" := by rfl) (hs : starEach [a, b] X.env = (false, eval a X.env) :: starEach [b] X.env := by rfl) (hs' : starEach [b] X.env = (false, eval b X.env) :: starEach [] X.env := by rfl)
    (hpl : (backTo pos (starEach [b] X.env)).any (·.1) = false := by rfl) : XI X B (.Tuple elts kk tpos) (.Call (.Name "zip" p) [a, b] [] pos) (fun e Q => ml e fun k ds => ml' e fun k' es => Q (zipD ds es)) (sq fa fb) :=
  ⟨fun e P P' hh q => ha.mono e _ _ (fun k ds q => hb.mono e _ _ (fun k es q => hh _ q) q) q, piW (pi_zipB hg hm (two_arg ha.pe hb.pe hs hs') hs hpl) fun σ H R ⟨e, G, bq, r, hh⟩ => ha.go r hh fun k ds q v H1 G1 r1 x1 d1 => hb.go r1 q fun k' es q v2 H2 G2 r2 x2 d2 => by
    obtain ⟨a1, vs, e1, dd1, w1⟩ := (d1.mono x2.same x2.ext).ltB r2.sub r2.gpot
    obtain ⟨a2, ws, e2, dd2, w2⟩ := d2.ltB r2.sub r2.gpot
    subst e1 e2
    exact ⟨isT k, isT k', a1, a2, vs, ws, rfl, w1 H2 .refl, w2 H2 .refl, q _ H2 G2 r2 (x1.trans x2) (wk_zipB w1 w2 dd1 dd2)⟩⟩
theorem xf_zipB (ha : XQ X B a ml fa) (hb : XQ X B b ml' fb) (hm : X.mg "zip" = none) (hg : Gl X "zip" := by rfl) (hs : starEach [a, b] X.env = (false, eval a X.env) :: starEach [b] X.env := by rfl) (hs' : starEach [b] X.env = (false, eval b X.env) :: starEach [] X.env := by rfl)
    (hpl : (backTo pos (starEach [b] X.env)).any (·.1) = false := by rfl) : XF X B (.Tuple elts kk tpos) (.Call (.Name "zip" p) [a, b] [] pos) (fun e Q => ml e fun k ds => ml' e fun k' es => Q (zipD ds es)) (sq fa fb) :=
  ⟨fun e P P' hh q => ha.mono e _ _ (fun k ds q => hb.mono e _ _ (fun k es q => hh _ q) q) q, piW (pi_zipB hg hm (two_arg ha.pe hb.pe hs hs') hs hpl) fun σ H R ⟨e, G, bq, r, hh⟩ => ha.go r hh fun k ds q v H1 G1 r1 x1 d1 => hb.go r1 q fun k' es q v2 H2 G2 r2 x2 d2 => by
    obtain ⟨a1, vs, e1, dd1, w1⟩ := (d1.mono x2.same).ltB
    obtain ⟨a2, ws, e2, dd2, w2⟩ := d2.ltB
    subst e1 e2
    exact ⟨isT k, isT k', a1, a2, vs, ws, rfl, w1 H2 r2.sub, w2 H2 r2.sub, q _ H2 G2 r2 (x1.trans x2) (wk_zipB w1 w2 dd1 dd2)⟩⟩
end
end Fd

set_option Elab.async false
set_option linter.all false
set_option maxRecDepth 100000
set_option maxHeartbeats 4000000
/-! Fe, part 1: an own exception class over own classes over ValueError, whose __init__ calls that of super(). -/
namespace Fe
open PySem PySem.W PySem.Calls PyProof.Rows PySem.ESX
/-- ValueError's __init__ bound to a thing -/
abbrev bv (x : Addr) : Obj := { cls := .type "method-wrapper", dict := none, data := .fields #[.builtin "ValueError.__init__", .ref x], slots := #[] }
theorem type_vi : typeOf (.builtin "ValueError.__init__") = pure (.type "wrapper_descriptor") := by show builtinType _ = _; rw [builtinType_eq_fast]; kernel_rfl
theorem argsV (a b : Value) : argsOk "wrapper_descriptor.__get__" ⟨[.builtin "ValueError.__init__", a, b], []⟩ := by unfold argsOk; kernel_rfl
theorem nacV : (kfb_private% "nameAndClass") (Value.builtin "ValueError.__init__") = (pure (("__init__" : Str), Value.type "ValueError") : Sem (Str × Value)) := by kernel_rfl
section
variable {prog : Program} {w : World} {M : Model} {A : Around} {E : Value → Shared → Prop} {h : Heap} {g : Array GenState} {d : Drawn} {t : Nat} {os : OsState}
theorem run_wdV {x C : Addr} {P : Fin → Shared → Prop} (hin : W.Looks M h (isInstance (.ref x) (.type "ValueError")) true) (hq : P (.done (.ret (.ref h.objs.size))) ⟨h.push (bv x), g, d, t, os⟩) :
    wpAny M A (Builtin.«wrapper_descriptor.__get__» ⟨[.builtin "ValueError.__init__", .ref x, .ref C], []⟩) P E ⟨h, g, d, t, os⟩ := by
  unfold Builtin.«wrapper_descriptor.__get__»
  refine wpAny_bind (wpAny_of_eq (a := (.builtin "ValueError.__init__", some (.ref x), some (.ref C))) (by first | rfl | kernel_rfl) ?_)
  show wpAny M A ((kfb_private% "checkInstance") (.builtin "ValueError.__init__") (.ref x) >>= fun _ => newFields "method-wrapper" [.builtin "ValueError.__init__", .ref x] >>= fun r => ret r) P E _
  refine wpAny_bind ?_
  show wpAny M A ((kfb_private% "nameAndClass") (.builtin "ValueError.__init__") >>= _) _ E _
  refine wpAny_bind (wpAny_of_eq nacV ?_)
  show wpAny M A (isInstance (.ref x) (.type "ValueError") >>= _) _ E _
  refine wpAny_bind (hin.at ?_)
  refine KFB.if_not rfl ?_
  refine wpAny_pure ?_
  exact wpAny_bind (wpAny_newObj_type (wpAny_pure hq))
theorem super_gaV {so D x C : Addr} {l₀ l : List Value} {K : Frag} {name : Str} {tk : Tok} {Q : Fin → Shared → Prop}
    (hso : h.get? so = some { cls := .type "super", dict := none, data := .fields #[.ref D, .ref x, .ref C], slots := #[] }) (hno : W.Looks (model prog w) h (opaqueClassAbove (.ref C)) none)
    (hC : W.Looks (model prog w) h (mroOf (.ref C)) l₀) (hl : (l₀.dropWhile (· != .ref D)).drop 1 = l) (X : K.In h)
    (hf : alongIn K name l = some (some (.builtin "ValueError.__init__"))) (hxC : x ≠ C) (hn : (name == ("__class__" : Str)) = false) (hin : W.Looks (model prog w) h (isInstance (.ref x) (.type "ValueError")) true)
    (hq : Q (.done (.ret (.ref h.objs.size))) ⟨h.push (bv x), g, d, t, os⟩) :
    wpAny (model prog w) A (Builtin.«super.__getattribute__» ⟨[.ref so, .str name tk], []⟩) Q E ⟨h, g, d, t, os⟩ := by
  have hlk := slot_wd.lookup
  have hne : (Value.ref x == Value.ref C) = false := by simp [hxC]
  have hTi : Shared.TypeIs ⟨h, g, d, t, os⟩ (.builtin "ValueError.__init__") "wrapper_descriptor" := type_vi
  have hdt : ({ cls := .type "super", dict := none, data := .fields #[.ref D, .ref x, .ref C], slots := #[] } : Obj).data = .fields #[.ref D, .ref x, .ref C] := rfl
  have f0 : (#[.ref D, .ref x, .ref C] : Array Value)[0]? = some (.ref D) := rfl
  have f1 : (#[.ref D, .ref x, .ref C] : Array Value)[1]? = some (.ref x) := rfl
  have f2 : (#[.ref D, .ref x, .ref C] : Array Value)[2]? = some (.ref C) := rfl
  unfold Builtin.«super.__getattribute__»
  repeat (first
    | (with_reducible refine wpAny_field hso hdt f0 ?_) | (with_reducible refine wpAny_field hso hdt f1 ?_) | (with_reducible refine wpAny_field hso hdt f2 ?_)
    | (with_reducible refine ks_wpAny_notOpaque hno ?_)
    | (with_reducible refine Looks.at hC ?_; rw [hl])
    | (refine ks_forIn_along X (fun _ _ => rfl) rfl ?_ hf)
    | (with_reducible refine wpAny_call_entry slot_wd hTi entry_wd ?_ (argsV _ _))
    | (with_reducible refine run_wdV hin ?_)
    | (with_reducible refine ⟨_, rfl, ?_⟩)
    | (simp only [hn, hne, Bool.or_false, Bool.false_eq_true, if_false])
    | wp_step
    | dsimp only)
  all_goals exact hq
theorem getMethod_superV {so D x C : Addr} {l₀ l : List Value} {K : Frag} {name : Str} {pl : Sem Bool} {Q : Value × List Value → Shared → Prop}
    (hso : h.get? so = some { cls := .type "super", dict := none, data := .fields #[.ref D, .ref x, .ref C], slots := #[] }) (hno : W.Looks (model prog w) h (opaqueClassAbove (.ref C)) none)
    (hC : W.Looks (model prog w) h (mroOf (.ref C)) l₀) (hl : (l₀.dropWhile (· != .ref D)).drop 1 = l) (X : K.In h)
    (hf : alongIn K name l = some (some (.builtin "ValueError.__init__"))) (hxC : x ≠ C) (hn : (name == ("__class__" : Str)) = false) (hin : W.Looks (model prog w) h (isInstance (.ref x) (.type "ValueError")) true)
    (hq : Q (.ref h.objs.size, []) ⟨h.push (bv x), g, d, t + 1, os⟩) :
    wpAny (model prog w) A (getMethod (.ref so) name pl) Q E ⟨h, g, d, t, os⟩ := by
  have hlk := F.ks_slot_super_ga.lookup
  have hT : ∀ t', (⟨h, g, d, t', os⟩ : Shared).TypeIs (.ref so) "super" := fun _ => ⟨_, hso, rfl⟩
  unfold getMethod
  refine wpAny_bind (wpAny_specialOf (hT _) hlk ?_)
  show wpAny _ _ (if (Manifest.canonical "super.__getattribute__" != "object.__getattribute__") = true then _ else _) _ _ _
  rw [if_pos F.ks_canon_super_ga]
  unfold getAttr getAttrBy
  refine wpAny_bind (wpAny_bind (wpAny_mkText (wpAny_holding (wpAny_bind (wpAny_typeOf (hT _) (wpAny_bind (wpAny_of_eq hlk ?_)))))))
  show wpAny _ _ (getAttrByItsOwn (.ref so) (.str name t) (.type "super") (.builtin "super.__getattribute__") true false) _ _ _
  unfold getAttrByItsOwn hookBefore callGetattribute boundAndCalled
  refine wpAny_bind (wpAny_of_eq (show (if onTheHeap (.type "super") then typeLookup (.type "super") "__getattr__" else pure none) = pure none from rfl) ?_)
  refine wpAny_bind (wpAny_attempt (wpAny_holding ?_))
  show wpAny _ _ (bindSpecial (.builtin "super.__getattribute__") (.ref so) >>= _) _ _ _
  refine wpAny_bind (wpAny_of_eq (F.ks_slot_super_ga.bind _) ?_)
  refine wpAny_mono (Q := fun v s' => v = .ref h.objs.size ∧ s' = ⟨h.push (bv x), g, d, t + 1, os⟩) (E := fun _ _ => False)
    (wpAny_call_entry F.ks_slot_super_ga (hT _) F.ks_entry_super_ga (super_gaV hso hno hC hl X hf hxC hn hin ⟨_, rfl, rfl, rfl⟩) (F.ks_gaArgs_super _ _)) (fun v s' hv => ?_) fun _ _ z => z.elim
  obtain ⟨rfl, rfl⟩ := hv
  exact wpAny_pure (wpAny_pure hq)
end
section
variable {prog : Program} {w : World} {M : Model} {A : Around} {E : Value → Shared → Prop} {s : Shared}
theorem callWith_bv {pos : Pos} {u x : Addr} {first : List Value} {args : List (Bool × Sem Value)} {Q : Value → Shared → Prop} (hplain : args.any (·.1) = false)
    (h : wpAny M A (evalArgs (.ref u) true args []) (fun a s₁ => s₁.heap.get? u = some (bv x) ∧ wpAny M A (call (.ref u) (first ++ a.pos) a.kw) Q E s₁) E s) : wpAny M A (callWith pos (.ref u) first args []) Q E s := by
  unfold callWith
  refine wpAny_bind (wpAny_holding (wpAny_mono h (fun a s₁ h₁ => wpAny_bind (wpAny_standAt ?_)) fun _ _ x => x))
  obtain ⟨ho, hcall⟩ := h₁
  simp only [hplain, List.any_nil, Bool.or_false]
  refine wpAny_bind (m := keeperOf (.ref u)) ?_
  unfold keeperOf
  refine wpAny_bind (wpAny_load ho ?_)
  simp only [bv, show (Value.type "method-wrapper" != Value.type "method") = true by decide, show (Value.type "method-wrapper" == Value.type "builtin_function_or_method" || Value.type "method-wrapper" == Value.type "method-wrapper") = true by decide, if_true]
  refine wpAny_pure ?_
  exact wpAny_bind (wpAny_mono hcall (fun r s₂ hr => wpAny_bind (wpAny_holding (wpAny_point (wpAny_pure hr)))) fun _ _ x => x)
end
section
variable {prog : Program} {w : World} {A : Around} {E : Value → Shared → Prop} {h : Heap} {g : Array GenState} {d : Drawn} {t : Nat} {os : OsState}
variable {nm q : Str} {C N : Addr} {bs bm : List Value} {hdct : Bool} {sn : List Str} {sub : List Value} {ab : Bool} {col : Option Bool} {dd : Option Addr} {k0 k1 k2 k3 k5 : Option Value}
theorem call_bv {u e t0 : Addr} {rest : List Value} {Q : Value → Shared → Prop}
    (hC : h.get? C = some (excClassObj nm q C N bs bm hdct sn sub ab col dd k0 k1 k2 k3 k5 "ValueError.__new__")) (he : h.get? e = some (HandSPX.excO C t0)) (hu : h.get? u = some (bv e)) (hrest : rest.length ≤ sizeLine)
    (hq : ∀ h' t1, (∀ b o, b ≠ e → h.get? b = some o → h'.get? b = some o) → h'.get? e = some (HandSPX.excO C t1) → Q .none ⟨h', g, d, t, os⟩) :
    wpAny (model prog w) A (call (.ref u) rest) Q E ⟨h, g, d, t, os⟩ := by
  refine wpAny_call (codeAny_of_tree ?_)
  show wpAny _ A.in1 (callAny (.ref u) ⟨rest, []⟩) _ _ _
  simp only [callAny]
  refine wpAny_bind (wpAny_load hu ?_)
  simp only [bv, show (Value.type "method-wrapper" == Value.type "method" || Value.type "method-wrapper" == Value.type "builtin_function_or_method" || Value.type "method-wrapper" == Value.type "method-wrapper") = true by decide, if_true]
  refine W.KFB.if_so (by decide) ?_
  refine wpAny_bind (check_bound F.excBase_ValueError hC he rfl ?_)
  refine wpAny_bind (wpAny_pure (wpAny_pure ?_))
  refine ⟨Code.quiet_builtin _ (by decide +kernel), codeAny_builtin F.excBase_ValueError.initEntry ?_⟩
  rw [Around.under_plainId F.excBase_ValueError.init.plain _]
  wp_walk
  refine hq _ h.objs.size (fun b o hb ho => ?_) ?_
  · rw [Heap.get?_update_other _ _ (Ne.symm hb)]
    exact Heap.get?_push_of_some _ ho
  · rw [Heap.get?_update_self _ (Heap.get?_push_of_some _ he) rfl]
    rfl
end
end Fe

set_option Elab.async false
set_option linter.all false
set_option maxRecDepth 100000
set_option maxHeartbeats 4000000
/-! Fe, part 2: such an __init__ run. -/
namespace Fe
open PySem PySem.W PySem.Calls PyProof.Rows PySem.ESX
/-- what the written part says of the class and its __init__ -/
structure IniC (prog : Program) (K : Frag) (mg : Str → Option Value) (C fI cc cda : Addr) (fd : FuncData) : Prop where
  cls : ∃ nm q N bs bm sn sub ab col dd k0 k1 k2 k3 k5, K.lookup C = some (excClassObj nm q C N bs bm true sn sub ab col dd k0 k1 k2 k3 k5 "ValueError.__new__") ∧ HandSPX.refsVE bm = true ∧ alongIn K "__init__" bm = some (some (.builtin "ValueError.__init__"))
  opq : nsIn K cStatics "thirdparty.any" = some none
  fn : ∃ oc od osl, K.lookup fI = some ⟨oc, od, .func fd, osl⟩
  code : ∃ cl dd vs sl file tf, K.lookup cda = some ⟨cl, dd, .fields vs, sl⟩ ∧ vs[2]? = some (.str file tf) ∧ ((prog.main.file : Str) == file) = true
  cell : ∃ cl dd sl, K.lookup cc = some ⟨cl, dd, .cell (some (.ref C)), sl⟩
  nosup : mg "super" = none
  top : (prog.main.scope.names.lookup ("super" : Str)).isSome = false
section
variable {prog : Program} {w : World} {A : Around} {E : Value → Shared → Prop} {h : Heap} {g : Array GenState} {d : Drawn} {t : Nat} {os : OsState} {K : Frag} {mg mb m : Str → Option Value} {C fI cc cda L x t0 : Addr} {fd : FuncData} {body : List Stmt} {scope : Scope} {q : Str}
theorem clsIn_of {nm q : Str} {N : Addr} {bs bm : List Value} {sn : List Str} {sub : List Value} {ab : Bool} {col : Option Bool} {dd : Option Addr} {k0 k1 k2 k3 k5 : Option Value} {newId : String}
    (hC : K.lookup C = some (excClassObj nm q C N bs bm true sn sub ab col dd k0 k1 k2 k3 k5 newId)) : clsIn K C = some { name := nm, bases := bs, mro := .ref C :: bm, ns := N, qualname := q, hasDict := true, slotNames := sn, subclasses := sub, abstract := ab, collection := col, hasDel := false } := by
  unfold clsIn; rw [hC] <;> rfl
/-- super().__init__(..) -/
theorem super_init {p0 p1 pa pc : Pos} {args : List Expr} {Q : Value → Shared → Prop} (T : IniC prog K mg C fI cc cda fd) (X : K.In h) (hg : h.Ns mainGlobals mg) (hb : h.Ns builtinsNs mb) (hv : mb "super" = some (.type "super")) (hn : h.Ns L m)
    {ar : Arg} (hp : (fd.params.posonlyargs ++ fd.params.args).head? = some ar) (hs : m ar.arg = some (.ref x)) (hx : h.get? x = some (HandSPX.excO C t0))
    (hks : scope.names.lookup ("super" : Str) = some .globalImplicit) (hkc : scope.names.lookup ("__class__" : Str) = some .free) (hka : scope.names.lookup ar.arg = some .local) (hk : scope.kind = .function)
    (ha : ∀ (h' : Heap) (u : Addr) (tok : Nat) (Q' : Args → Shared → Prop), (∀ b o, h.get? b = some o → h'.get? b = some o) → (∀ vs, vs.length ≤ sizeLine → Q' ⟨vs, []⟩ ⟨h', g, d, tok, os⟩) →
      wpAny (model prog w) A (evalArgs (.ref u) true (backTo pc (starEach args (ksEnv q scope L fI (.ref cda) cc))) []) Q' E ⟨h', g, d, tok, os⟩)
    (hpl : (backTo pc (starEach args (ksEnv q scope L fI (.ref cda) cc))).any (·.1) = false)
    (hq : ∀ h' tok t1, (∀ b o, b ≠ x → h.get? b = some o → h'.get? b = some o) → h'.get? x = some (HandSPX.excO C t1) → Q .none ⟨h', g, d, tok, os⟩) {pl : Sem Bool}
    (he : eval (.Call (.Attribute (.Call (.Name "super" p0) [] [] p1) "__init__" pa) args [] pc) (ksEnv q scope L fI (.ref cda) cc) = (do
      let ov ← attributeBase (.Call (.Name "super" p0) [] [] p1) "__init__" (ksEnv q scope L fI (.ref cda) cc) (eval (.Call (.Name "super" p0) [] [] p1) (ksEnv q scope L fI (.ref cda) cc))
      standAt pa.atName
      let (f, first) ← holding [ov] (getMethod ov "__init__" pl)
      callWith pc f first (backTo pc (starEach args (ksEnv q scope L fI (.ref cda) cc))) []) := by rfl) :
    _root_.PySem.wpAt (model prog w) A (.func body (ksEnv q scope L fI (.ref cda) cc)) (eval (.Call (.Attribute (.Call (.Name "super" p0) [] [] p1) "__init__" pa) args [] pc) (ksEnv q scope L fI (.ref cda) cc)) Q E ⟨h, g, d, t, os⟩ := by
  obtain ⟨nm, qn, N, bs, bm, sn, sub, ab, col, dd, c0, c1, c2, c3, c5, hC, hbm, hal⟩ := T.cls
  obtain ⟨oc, od, osl, hf⟩ := T.fn
  obtain ⟨cl, cdd, vs, sl, file, tf, hcode, hvs, hfile⟩ := T.code
  obtain ⟨ccl, ccd, ccs, hcell⟩ := T.cell
  have hcl := clsIn_of hC
  have hCh := X _ _ hC
  refine ks_wpAt_MethodCall (pl := pl) ?_ he
  refine ks_wpAt_super_base (env := ksEnv q scope L fI (.ref cda) cc) hks hkc (by decide) rfl (X _ _ hf) rfl hp rfl (X _ _ hcode) rfl hvs hfile T.top ?_
  refine ks_loadName_global hk hks (loadGlobal_builtin (env := ksEnv q scope L fI (.ref cda) cc) hg T.nosup hb hv ⟨rfl, ?_⟩)
  refine wpAny_loadName_free hk hkc rfl ⟨_, X _ _ hcell, rfl⟩ ?_
  refine wpAny_loadName_local hk hka hn hs ?_
  refine ks_wpAny_isType_cls hCh rfl ⟨rfl, ?_⟩
  have hne : x ≠ C := fun z => by
    rw [z, hCh] at hx
    cases hx
  have hob : ∀ Y : String, HandSPX.veTail.contains (.type Y) = true → (Value.ref C :: bm).contains (.type Y) = true := fun Y hY => by
    rw [List.contains_cons, HandSPX.refsVE_contains Y bm hbm, hY, Bool.or_true]
  have hmro : ∀ {b : Value}, (Value.ref C :: bm).contains b = true → mroIn K C b = some true := fun {b} hb => by
    unfold mroIn
    rw [hcl, Option.bind_some, if_neg (show ¬ (List.isEmpty (Value.ref C :: bm) = true) from Bool.false_ne_true), hb]
  refine ks_wpAny_call_super hCh rfl hx rfl (fun c e => by cases e) (looks_mroIn X (hmro (by rw [List.contains_cons]; simp))) (fun h1 e1 k1 => ?_)
  have X1 := X.keeps k1
  have hx1 := k1 _ _ hx
  have I1 : InstAt h1 x (HandSPX.excO C t0) C none := ⟨hx1, rfl, rfl, trivial⟩
  refine getMethod_superV e1 (looks_opaque X1 T.opq) (l₀ := .ref C :: bm) ((looks_clsIn X1 hcl).andThen .now) (drop_own C bm) X1 hal hne (by decide) (I1.type.andThen (looks_mroIn X1 (hmro (hob "ValueError" (by decide +kernel))))) ?_
  have k2 : ∀ b o, h1.get? b = some o → (h1.push (bv x)).get? b = some o := fun b o e => Heap.get?_push_of_some _ e
  have hu : (h1.push (bv x)).get? h1.objs.size = some (bv x) := Heap.get?_push_size _ rfl
  refine callWith_bv (x := x) hpl (ha _ _ _ _ (fun b o e => k2 b o (k1 b o e)) fun vs hvl => ⟨hu, ?_⟩)
  refine call_bv (k2 _ _ (k1 _ _ hCh)) (k2 _ _ hx1) hu hvl (fun h' t1 k e => hq h' _ t1 (fun b o hb ho => k b o hb (k2 b o (k1 b o ho))) e)
/-- the written text of the two kinds of __init__ -/
abbrev superE (p0 p1 pa pc : Pos) (args : List Expr) : Expr := .Call (.Attribute (.Call (.Name "super" p0) [] [] p1) "__init__" pa) args [] pc
variable {nm qual : Str} {params : Arguments} {dV kV doc pm ct : Value} {an : Option Addr} {R : Result → Shared → Prop}
/-- a def's scope with these names -/
abbrev scI (ns : List (Str × NameKind)) : Scope := { kind := .function, names := ns, isGenerator := false, isCoroutine := false, more := [] }
variable {ns : List (Str × NameKind)}
/-- how such a call is evaluated -/
abbrev SupE (p0 p1 pa pc : Pos) (args : List Expr) (pl : Env → Sem Bool) : Prop := ∀ env : Env, eval (superE p0 p1 pa pc args) env = (do
      let ov ← attributeBase (.Call (.Name "super" p0) [] [] p1) "__init__" env (eval (.Call (.Name "super" p0) [] [] p1) env)
      standAt pa.atName
      let (f, first) ← holding [ov] (getMethod ov "__init__" (pl env))
      callWith pc f first (backTo pc (starEach args env)) [])
theorem init_run0 {p0 p1 pa pc pe : Pos} (T : IniC prog K mg C fI cc cda (ksFn nm qual params [.Expr (superE p0 p1 pa pc []) pe] (scI ns) dV kV doc pm an (.ref cda) ct cc)) (hcd : codeIn K (.ref cda) qual = true) (X : K.In h) (hlim : h.NoLimit)
    (hg : h.Ns mainGlobals mg) (hb : h.Ns builtinsNs mb) (hv : mb "super" = some (.type "super")) (hroom : A.depth < recursionLimit) (hx : h.get? x = some (HandSPX.excO C t0))
    (hbind : BindsTo ⟨h, g, d, t, os⟩ (ksFn nm qual params [.Expr (superE p0 p1 pa pc []) pe] (scI ns) dV kV doc pm an (.ref cda) ct cc) ⟨[.ref x], []⟩ [("self", .ref x)])
    (hp : (params.posonlyargs ++ params.args).head?.map (·.arg) = some "self") (hks : ns.lookup ("super" : Str) = some .globalImplicit) (hkc : ns.lookup ("__class__" : Str) = some .free) (hka : ns.lookup ("self" : Str) = some .local)
    (hcell : ∀ y ∈ ns, y.2 ≠ .cell)
    {pl : Env → Sem Bool} (he : SupE p0 p1 pa pc [] pl)
    (hq : ∀ h' tok t1, (∀ b o, b ≠ x → h.get? b = some o → h'.get? b = some o) → h'.get? x = some (HandSPX.excO C t1) → R (.ok (.ret .none)) ⟨h', g, d, tok, os⟩) :
    codeAny (model prog w) A (.call (.ref fI) ⟨[.ref x], []⟩) R ⟨h, g, d, t, os⟩ := by
  obtain ⟨oc, od, osl, hf⟩ := T.fn
  refine ks_codeAny_call_defAt (fd := ksFn nm qual params [.Expr (superE p0 p1 pa pc []) pe] (scI ns) dV kV doc pm an (.ref cda) ct cc) hroom (X _ _ hf) rfl hlim (codeRec_of X hcd) rfl hbind hcell (fun y hy => by
    rw [List.mem_singleton] at hy
    rw [hy]
    exact hka) (fun h0 hns k0 => ?_) rfl rfl rfl
  refine ks_wpAt_execs_cons (ks_wpAt_Expr_any ?_)
  obtain ⟨ar, har, e1⟩ := Option.map_eq_some_iff.mp hp
  refine super_init T (X.keeps k0) (hg.keeps k0) (hb.keeps k0) hv hns har (by rw [e1]; rfl) (k0 _ _ hx) hks hkc (by rw [e1]; exact hka) rfl (fun h' u tok Q' k q => ?_) rfl (fun h' tok t1 k e => ?_) (he _)
  · exact wpAny_of_eq (a := (⟨[], []⟩ : Args)) rfl (q [] (by decide))
  · exact PySem.wpAt_of_wpAny (wpAny_execs_nil (hq h' tok t1 (fun b o hb ho => k b o hb (k0 b o ho)) e))
theorem init_run1 {p0 p1 pa pc pe pn pn2 ps pt pas : Pos} {par field : Str} {u : Value} (T : IniC prog K mg C fI cc cda (ksFn nm qual params [.Expr (superE p0 p1 pa pc [.Name par pn]) pe, .Assign [.Attribute (.Name "self" ps) field pt] (.Name par pn2) pas] (scI ns) dV kV doc pm an (.ref cda) ct cc)) (hcd : codeIn K (.ref cda) qual = true) (X : K.In h) (hlim : h.NoLimit)
    (sa : findIn K (.ref C) "__setattr__" = some (some (.builtin "object.__setattr__"))) (nf : findIn K (.ref C) field = some none)
    (hg : h.Ns mainGlobals mg) (hb : h.Ns builtinsNs mb) (hv : mb "super" = some (.type "super")) (hroom : A.depth < recursionLimit) (hx : h.get? x = some (HandSPX.excO C t0)) (hxK : K.lookup x = none)
    (hbind : BindsTo ⟨h, g, d, t, os⟩ (ksFn nm qual params [.Expr (superE p0 p1 pa pc [.Name par pn]) pe, .Assign [.Attribute (.Name "self" ps) field pt] (.Name par pn2) pas] (scI ns) dV kV doc pm an (.ref cda) ct cc) ⟨[.ref x, u], []⟩ [(("self" : Str), .ref x), (par, u)])
    (hp : (params.posonlyargs ++ params.args).head?.map (·.arg) = some "self") (hks : ns.lookup ("super" : Str) = some .globalImplicit) (hkc : ns.lookup ("__class__" : Str) = some .free) (hka : ns.lookup ("self" : Str) = some .local) (hkp : ns.lookup par = some .local) (hps : par ≠ "self") (hdb : (par == ("__debug__" : Str)) = false)
    (hcell : ∀ y ∈ ns, y.2 ≠ .cell) {pl : Env → Sem Bool} (he : SupE p0 p1 pa pc [.Name par pn] pl)
    (hsw : ∀ env : Env, swapsWith (.Name par pn2) (some (.Attribute (.Name "self" ps) field pt)) pas.line env = pure false)
    (hq : ∀ h' tok t1 dx, (∀ b o, b ≠ x → h.get? b = some o → h'.get? b = some o) → x < dx → h'.get? x = some { cls := .ref C, dict := some dx, data := .fields #[.ref t1, .none, .none, .none, .bool false, .none] } →
      h'.Ns1 dx (fun y => if y = field then some u else none) → R (.ok (.ret .none)) ⟨h', g, d, tok, os⟩) :
    codeAny (model prog w) A (.call (.ref fI) ⟨[.ref x, u], []⟩) R ⟨h, g, d, t, os⟩ := by
  obtain ⟨oc, od, osl, hf⟩ := T.fn
  refine ks_codeAny_call_defAt (fd := ksFn nm qual params [.Expr (superE p0 p1 pa pc [.Name par pn]) pe, .Assign [.Attribute (.Name "self" ps) field pt] (.Name par pn2) pas] (scI ns) dV kV doc pm an (.ref cda) ct cc) hroom (X _ _ hf) rfl hlim (codeRec_of X hcd) rfl hbind hcell (fun y hy => by
    rcases List.mem_cons.mp hy with rfl | hy
    · exact hka
    · rw [List.mem_singleton] at hy
      rw [hy]
      exact hkp) (fun h0 hns k0 => ?_) rfl rfl rfl
  have ms : (fun y => List.lookup y [(("self" : Str), Value.ref x), (par, u)].reverse) "self" = some (.ref x) := by
    show List.lookup ("self" : Str) [(par, u), (("self" : Str), Value.ref x)] = _
    rw [List.lookup_cons, show (("self" : Str) == par) = false from by simpa using fun z => hps z.symm]
    rfl
  have mp : (fun y => List.lookup y [(("self" : Str), Value.ref x), (par, u)].reverse) par = some u := by
    show List.lookup par [(par, u), (("self" : Str), Value.ref x)] = _
    rw [List.lookup_cons, show (par == par) = true from by simp]
  refine ks_wpAt_execs_cons (ks_wpAt_Expr_any ?_)
  obtain ⟨ar, har, e1⟩ := Option.map_eq_some_iff.mp hp
  refine super_init T (X.keeps k0) (hg.keeps k0) (hb.keeps k0) hv hns har (by rw [e1]; exact ms) (k0 _ _ hx) hks hkc (by rw [e1]; exact hka) rfl (fun h' u' tok Q' k q => ?_) rfl (fun h1 tok t1 k e => ?_) (he _)
  · refine evalArgs_plain (spliced_cons (wpAny_Name ?_ hdb))
    refine wpAny_loadName_local rfl hkp (hns.keeps k) mp ?_
    exact spliced_nil (q [u] (by rw [sizeLine_eq]; show 1 ≤ _; omega))
  · have nL : h.objs.size ≠ x := Nat.ne_of_gt (Heap.lt_size hx)
    have hns1 : h1.Ns h.objs.size (fun y => List.lookup y [(("self" : Str), Value.ref x), (par, u)].reverse) := by
      obtain ⟨o, es, ep, z1, z2⟩ := hns
      exact ⟨o, es, ep, k _ _ nL z1, z2⟩
    have k1 : ∀ b o, b ≠ x → h.get? b = some o → h1.get? b = some o := fun b o hb ho => k b o hb (k0 b o ho)
    have X1 : K.In h1 := fun b o z => by
      have hb : b ≠ x := fun zz => by
        rw [zz, hxK] at z
        cases z
      exact k1 b o hb (X _ _ z)
    obtain ⟨nm', qn, N, bs, bm, sn, sub, ab, col, dd, c0, c1, c2, c3, c5, hC, hbm, hal⟩ := T.cls
    refine ks_wpAt_execs_cons (ks_wpAt_Assign_Attr (PySem.wpAt_of_wpAny (wpAny_Name (wpAny_loadName_local rfl hkp hns1 mp ?_) hdb)) (hsw _))
    refine wpAny_Name (wpAny_loadName_local rfl hka hns1 ms ?_)
    refine set_plain X1 (ox := HandSPX.excO C t1) (od := none) ⟨e, rfl, rfl, trivial⟩ sa ?_
    refine HandSPX.exc_osa X1 e (clsIn_of hC) (show HandSPX.refsVE (.ref C :: bm) = true from hbm) rfl nf (fun h' tk' dx k2 dn dne hx2 hn2 => ?_)
    exact PySem.wpAt_of_wpAny (wpAny_execs_nil (hq h' tk' t1 dx (fun b o hb ho => k2 b o hb (k1 b o hb ho)) (Nat.lt_of_lt_of_le (Heap.lt_size e) dn) hx2 hn2))
end
end Fe

set_option Elab.async false
set_option linter.all false
set_option maxRecDepth 100000
set_option maxHeartbeats 4000000
/-! Fe, part 3: C() and C(x) of such a class, to be raised. -/
namespace Fe
open PySem PySem.W PySem.Calls PyProof.Rows PySem.ESX L2
/-- all that is asked of the class at C and its __init__ at fI, of body and scope -/
structure ExcK (prog : Program) (K : Frag) (mg : Str → Option Value) (C fI : Addr) (params : Arguments) (body : List Stmt) (ns : List (Str × NameKind)) : Prop where
  ini : ∃ (nm qual : Str) (kV doc pm ct : Value) (an : Option Addr) (cda cc : Addr), IniC prog K mg C fI cc cda (ksFn nm qual params body (scI ns) .none kV doc pm an (.ref cda) ct cc) ∧ codeIn K (.ref cda) qual = true
  iC : findIn K (.ref C) "__init__" = some (some (.ref fI))
  tI : typeIn K (.ref fI) = some (.type "function")
  kC : keepIn K (.ref C) = true
  sa : findIn K (.ref C) "__setattr__" = some (some (.builtin "object.__setattr__"))
  exC : subIn K (.ref C) (.type "BaseException") = some true
  tyC : typeIn K (.ref C) = some (.type "type")
/-- C() -/
def tMk0 (C : Addr) : L2.St → Hp → XK → Prop := fun σ H Q => Q (.ref C) none H
/-- C(x), keeping x as f -/
def tMk1 (C : Addr) (f : Str) (ta : TA) : L2.St → Hp → XK → Prop := fun σ H Q => ta σ H fun vs H1 => ∃ y, vs = [y] ∧ ∀ d, H1 d = none → Q (.ref C) (some d) (upd H1 d (.xd [(f, y)]))
section
variable {X : Cx} {C fI : Addr} {params : Arguments} {ns : List (Str × NameKind)} {x : Str} {p pos p0 p1 pa pc pe : Pos} {k : Nat} {f par : Str} {pn pn2 ps pt pas : Pos} {e : Expr} {ta : TA}
theorem pmk_s0 {pl : Env → Sem Bool} (T : ExcK X.prog X.K X.mg C fI params [.Expr (superE p0 p1 pa pc []) pe] ns) (hr : Room (k + 1) X.A) (hg : Gl X x) (hm : X.mg x = some (.ref C))
    (hbind : ∀ (s : Shared) (v : Value) (nm qual : Str) (kV doc pm ct cdv : Value) (an : Option Addr) (cc : Addr), BindsTo s (ksFn nm qual params [.Expr (superE p0 p1 pa pc []) pe] (scI ns) .none kV doc pm an cdv ct cc) ⟨[v], []⟩ [("self", v)])
    (hp : (params.posonlyargs ++ params.args).head?.map (·.arg) = some "self") (hks : ns.lookup ("super" : Str) = some .globalImplicit) (hkc : ns.lookup ("__class__" : Str) = some .free) (hka : ns.lookup ("self" : Str) = some .local) (hcell : ∀ y ∈ ns, y.2 ≠ .cell) (he : SupE p0 p1 pa pc [] pl)
    (hdb : (x == ("__debug__" : Str)) = false := by decide) : PMk X (.Call (.Name x p) [] [] pos) (tMk0 C) := by
  intro pins s σ H Q I h
  obtain ⟨nm, qual, kV, doc, pm, ct, an, cda, cc, T1, hcd⟩ := T.ini
  obtain ⟨nm', q, N, bs, bm, sn, sub, ab, col, dd, k0, k1, k2, k3, k5, hC, hbm, hal⟩ := id T1.cls
  refine wpAny_Call_Name_kw (ld_glob I hg hm ?_ hdb)
  refine callWith_K0 I.kIn T.kC ?_
  show wpAny _ _ (call (.ref C) []) _ _ _
  obtain ⟨hp0, g, dr, tk, os⟩ := s
  have kk : ∀ b o, hp0.get? b = some o → ((hp0.push (kdv_tup [])).push (HandSPX.excO C hp0.objs.size)).get? b = some o := fun b o e => Heap.get?_push_of_some _ (Heap.get?_push_of_some _ e)
  have hget : ((hp0.push (kdv_tup [])).push (HandSPX.excO C hp0.objs.size)).get? (hp0.objs.size + 1) = some (HandSPX.excO C hp0.objs.size) := by heap_get
  have X1 := I.kIn.keeps kk
  obtain ⟨mb, b1, b2⟩ := I.mod.blt
  refine wpAny_call (HandSPX.call_own F.excBase_ValueError (fun Y => HandSPX.refsVE_contains Y bm hbm) (I.kIn _ _ hC) (looks_findIn I.kIn T.iC) (fun self => bind_fn I.kIn self T.tI) (by rw [sizeLine_eq]; show 0 ≤ _; omega) ?_)
  have hn : H (hp0.objs.size + 1) = none := I.hok.fresh (Nat.le_succ _)
  refine init_run0 T1 hcd X1 (I.mod.nolimit.keeps fun b o z => kk b o (I.bk b o z)) ((I.mod.glob.keeps I.bk).keeps kk) ((b1.keeps I.bk).keeps kk) ((b2 "super" (by decide)).trans (by first | rfl | kernel_rfl)) (hr.make C [] []).depth hget (hbind _ _ _ _ _ _ _ _ _ _ _) hp hks hkc hka hcell he (fun h' tok t1 k e => ?_)
  have fr : ∀ b o, hp0.get? b = some o → b ≠ hp0.objs.size + 1 := fun b o z =>
    Nat.ne_of_lt (Nat.lt_succ_of_lt (Heap.lt_size z))
  refine ⟨rfl, hp0.objs.size + 1, _, _, _, H, .ref C, none, rfl, I, fun b o z => k b o (fr b o z) (kk b o z), ?_, e, ⟨rfl, rfl⟩, rfl, rfl, hn, rfl, I.bare, raises_own T.exC T.tyC, h⟩
  cases z : hp0.get? (hp0.objs.size + 1) with
  | none => rfl
  | some o => exact absurd rfl (fr _ _ z)
theorem pmk_s1 {pl : Env → Sem Bool} (T : ExcK X.prog X.K X.mg C fI params [.Expr (superE p0 p1 pa pc [.Name par pn]) pe, .Assign [.Attribute (.Name "self" ps) f pt] (.Name par pn2) pas] ns) (nf : findIn X.K (.ref C) f = some none) (hr : Room (k + 1) X.A) (hg : Gl X x) (hm : X.mg x = some (.ref C)) (ha : PA X [e] ta)
    (hbind : ∀ (s : Shared) (v u : Value) (nm qual : Str) (kV doc pm ct cdv : Value) (an : Option Addr) (cc : Addr), BindsTo s (ksFn nm qual params [.Expr (superE p0 p1 pa pc [.Name par pn]) pe, .Assign [.Attribute (.Name "self" ps) f pt] (.Name par pn2) pas] (scI ns) .none kV doc pm an cdv ct cc) ⟨[v, u], []⟩ [(("self" : Str), v), (par, u)])
    (hp : (params.posonlyargs ++ params.args).head?.map (·.arg) = some "self") (hks : ns.lookup ("super" : Str) = some .globalImplicit) (hkc : ns.lookup ("__class__" : Str) = some .free) (hka : ns.lookup ("self" : Str) = some .local) (hkp : ns.lookup par = some .local) (hps : par ≠ "self") (hdp : (par == ("__debug__" : Str)) = false) (hcell : ∀ y ∈ ns, y.2 ≠ .cell) (he : SupE p0 p1 pa pc [.Name par pn] pl)
    (hsw : ∀ env : Env, swapsWith (.Name par pn2) (some (.Attribute (.Name "self" ps) f pt)) pas.line env = pure false)
    (hdb : (x == ("__debug__" : Str)) = false := by decide) (hst : starEach [e] X.env = (false, eval e X.env) :: starEach [] X.env := by rfl) : PMk X (.Call (.Name x p) [e] [] pos) (tMk1 C f ta) := by
  intro pins s σ H Q I h
  obtain ⟨nm, qual, kV, doc, pm, ct, an, cda, cc, T1, hcd⟩ := T.ini
  obtain ⟨nm', q, N, bs, bm, sn, sub, ab, col, dd, k0, k1, k2, k3, k5, hC, hbm, hal⟩ := id T1.cls
  refine wpAny_Call_Name_kw (ld_glob I hg hm ?_ hdb)
  refine callWith_K (h₀ := X.base) I.ok.mod.kin T.kC (thn (ha.run pos pins s σ H _ I h) fun us s1 ⟨vs, H1, I1, r1, y, ev, q1⟩ => ⟨I1.kIn, ?_⟩) hst rfl
  subst ev
  cases r1 with
  | @cons _ u _ ur ru rr =>
  cases rr
  show wpAny _ _ (call (.ref C) [u]) _ _ _
  obtain ⟨hp0, g, dr, tk, os⟩ := s1
  have kk : ∀ b o, hp0.get? b = some o → ((hp0.push (kdv_tup [u])).push (HandSPX.excO C hp0.objs.size)).get? b = some o := fun b o e => Heap.get?_push_of_some _ (Heap.get?_push_of_some _ e)
  have hget : ((hp0.push (kdv_tup [u])).push (HandSPX.excO C hp0.objs.size)).get? (hp0.objs.size + 1) = some (HandSPX.excO C hp0.objs.size) := by heap_get
  have X1 := I1.kIn.keeps kk
  obtain ⟨mb, b1, b2⟩ := I1.mod.blt
  have fr : ∀ b o, hp0.get? b = some o → b ≠ hp0.objs.size + 1 := fun b o z => Nat.ne_of_lt (Nat.lt_succ_of_lt (Heap.lt_size z))
  have noA : hp0.get? (hp0.objs.size + 1) = none := by
    cases z : hp0.get? (hp0.objs.size + 1) with
    | none => rfl
    | some o => exact absurd rfl (fr _ _ z)
  refine wpAny_call (HandSPX.call_own F.excBase_ValueError (fun Y => HandSPX.refsVE_contains Y bm hbm) (I1.kIn _ _ hC) (looks_findIn I1.kIn T.iC) (fun self => bind_fn I1.kIn self T.tI) (by rw [sizeLine_eq]; show 1 ≤ _; omega) ?_)
  have hn : H1 (hp0.objs.size + 1) = none := I1.hok.fresh (Nat.le_succ _)
  refine init_run1 T1 hcd X1 (I1.mod.nolimit.keeps fun b o z => kk b o (I1.bk b o z)) T.sa nf ((I1.mod.glob.keeps I1.bk).keeps kk) ((b1.keeps I1.bk).keeps kk) ((b2 "super" (by decide)).trans (by first | rfl | kernel_rfl)) (hr.make C [u] []).depth hget (by
    cases z : X.K.lookup (hp0.objs.size + 1) with
    | none => rfl
    | some o => exact absurd rfl (fr _ _ (I1.kIn _ _ z))) (hbind _ _ _ _ _ _ _ _ _ _ _ _) hp hks hkc hka hkp hps hdp hcell he hsw (fun h' tok t1 dx k dn e hns => ?_)
  have dne : dx ≠ hp0.objs.size + 1 := Nat.ne_of_gt dn
  have dn0 : H1 dx = none := I1.hok.fresh (Nat.le_of_lt (Nat.lt_of_succ_lt dn))
  obtain ⟨G, g1, g2⟩ := restrict h' fun b => decide (b ≠ hp0.objs.size + 1)
  have gk : ∀ b, b ≠ hp0.objs.size + 1 → G.get? b = h'.get? b := fun b hb => g1 b (decide_eq_true hb)
  have ge : G.get? (hp0.objs.size + 1) = none := g2 _ (by simp)
  have J := Inv.laid (t' := tok) (a := dx) (o := .xd [(f, y)]) (h' := G) I1 (fun b o z => by rw [gk b (fr b o z)]; exact k b o (fr b o z) (kk b o z)) (Nat.le_of_lt (Nat.lt_of_succ_lt dn)) (by
    refine ⟨_, hns.at fun o z => (gk dx dne).trans z, fun y' => ?_⟩
    rw [lookup_put]
    by_cases q : y' = f
    · rw [if_pos q, if_pos q]
      exact ru
    · rw [if_neg q, if_neg q]
      trivial)
  refine ⟨rfl, hp0.objs.size + 1, _, _, _, upd H1 dx (.xd [(f, y)]), .ref C, some dx, rfl, J, fun b o z => ?_, ge, e, ⟨rfl, rfl⟩, rfl, rfl, by rw [upd_ne (Ne.symm dne)]; exact hn, rfl, I1.bare, raises_own T.exC T.tyC, q1 dx dn0⟩
  have hb : b ≠ hp0.objs.size + 1 := fun zz => by rw [zz, ge] at z; cases z
  rw [← gk b hb]
  exact z
end
end Fe

set_option Elab.async false
set_option linter.all false
set_option maxRecDepth 100000
set_option maxHeartbeats 4000000
/-! Fe, part 4: defs that may raise own exceptions, by their meanings. -/
namespace Fd
open PySem PySem.Spec PyProof.Rows L2
/-- an exception: its class's name, what it keeps -/
structure Xn where
  nm : Str
  fs : List (Str × PyData)
def XnD (K : PySem.W.Frag) (mg : Str → Option Value) (G H : Hp) (cls : Value) (d : Option Addr) (x : Xn) : Prop :=
  mg x.nm = some cls ∧ ((x.fs = [] ∧ d = none) ∨ ∃ (a : Addr) (f : Str) (v : V) (y : PyData), d = some a ∧ x.fs = [(f, y)] ∧ H a = some (.xd [(f, v)]) ∧ Dat K G v y)
/-- no pot -/
def Pt.off : Pt := ⟨0, 0, false⟩
theorem off_pots : Pt.off.pots = [] := rfl
abbrev PhX := List U → (U → Prop) → (Xn → Prop) → Prop
def spX (K : PySem.W.Frag) (mg : Str → Option Value) (Φ : PhX) : List V → Hp → VK → L2.XK → Prop := fun vs H Q E => ∃ (G : Hp) (us : List U), Same G H ∧ UDs K Pt.off G vs us ∧
  Φ us (fun u => ∀ v H' G', Same G' H' → Same G G' → Ext Pt.off H H' → (∀ a o, G' a = some o → G a = some o ∨ H a = none ∨ IsTupO o) → UD K Pt.off G' v u → Q v H')
    (fun x => ∀ cls d H' G', Same G' H' → Same G G' → Ext Pt.off H H' → (∀ a o, G' a = some o → G a = some o ∨ H a = none ∨ IsTupO o) → XnD K mg G' H' cls d x → E cls d H')
/-- the def at f keeps the promise; what it raises lies as the layer says -/
structure FnX (P : Program) (w : World) (K : PySem.W.Frag) (mg : Str → Option Value) (base : Heap) (k : Nat) (f : Addr) (fd : FuncData) (ps : List Str) (sp : List V → Hp → VK → L2.XK → Prop) : Prop where
  len : ∀ vs H Q E, sp vs H Q E → vs.length = ps.length
  run : ∀ (A : Around) (outer : List Env) (s : Shared) (H : Hp) (args : Args) (us : List Value) (vs : List V) (Q : VK) (E : L2.XK), Room k A → A.guards = some [] → Env0 P w K mg base A outer s H →
    BindsTo s fd args (ps.zip us) → Vals vs us → sp vs H Q E → codeAny (model P w) A (.call (.ref f) args) (CR (L2.CX P w) outer P w H s Q E) s
theorem FnX.up {P : Program} {w : World} {K : PySem.W.Frag} {mg : Str → Option Value} {base : Heap} {j k : Nat} {f : Addr} {fd : FuncData} {ps : List Str} {sp : List V → Hp → VK → L2.XK → Prop} (F : FnX P w K mg base j f fd ps sp) (h : j ≤ k) : FnX P w K mg base k f fd ps sp :=
  ⟨F.len, fun A outer s H args us vs Q E hr hg => F.run A outer s H args us vs Q E (hr.mono h) hg⟩
/-- the exceptions that R lets out are taken -/
structure LinkX (X : Cx) (B : Bs) (R : Xn → Prop) : Prop where
  ex : ∃ W : WX, Takes X W ∧ ∀ (x : Xn) (cls : Value) (d : Option Addr) (σ : L2.St) (H G : Hp) (e : En) (b : Nat), Rel X.K B b e σ G H → XnD X.K X.mg G H cls d x → R x → W cls d σ H
section
variable {P : Program} {w : World} {K : PySem.W.Frag} {mg : Str → Option Value} {base : Heap}
theorem okGX {x qual : Str} {st : Stmt} {f : Addr} {fd : FuncData} {N ps : List Str} {k : Nat} {sp : List V → Hp → VK → L2.XK → Prop} (F : Fun K x qual st f fd) (S : FnScope N ps (defScope st)) (len : ∀ vs H Q E, sp vs H Q E → vs.length = ps.length)
    (hbody : ∀ (cdv : Value) (A : Around) (outer : List Env) (s : Shared) (H : Hp) (vs : List V) (Q : VK) (E : L2.XK), Room k (A.deeper (envOfC qual (defScope st) s.heap.objs.size f cdv)) → (A.deeper (envOfC qual (defScope st) s.heap.objs.size f cdv)).guards = some [] → sp vs H Q E →
      ∃ t, PSs (cxOf (L2.CX P w) P w K mg base N qual (defScope st) f cdv A outer s H E) (defBody st) t ∧ t { nx := fun _ H' => Q .non H', rt := Q } (L2.start N vs) H) : FnX P w K mg base (k + 1) f fd ps sp := by
  obtain ⟨oc, od, kV, doc, pm, an, cdv, ct, osl, rfl, lk, hcd⟩ := F.ex
  refine ⟨len, fun A outer s H args us vs Q E room grd e0 bnd rv want => ?_⟩
  have vlen := len _ _ _ _ want
  have inK : K.In s.heap := e0.mod.kin.keeps fun a o q => (e0.bs a o q).1
  have nolim : s.heap.NoLimit := e0.mod.nolimit.keeps fun a o q => (e0.bs a o q).1
  have kinds : ∀ p ∈ ps.zip us, (defScope st).names.lookup p.1 = some .local ∨ ((defScope st).names.lookup p.1 = some .cell ∧ ((cellsFrom (s.heap.objs.size + 1) (defScope st).names []).lookup p.1).isSome = true) := by
    rintro ⟨n, v⟩ hp
    rcases S.par n (List.of_mem_zip hp).1 with z | z
    · exact .inl z
    · exact .inr ⟨z, PySem.W.cellsFrom_some _ _ _ (.inl z)⟩
  refine codeAny_call_function room.depth (inK _ _ lk) rfl S.co S.gen rfl (PySem.W.codeRec_of inK hcd) (bnd _ _ _ _ ?_)
  refine wpAny_newFunctionEnv_cells S.kind kinds fun en hen s1 ic => ?_
  subst hen
  refine ⟨nolim.keeps ic.toInCall.keep, codeAny_func ?_⟩
  obtain ⟨t, ht, hq⟩ := hbody cdv A outer s H vs Q E (room.deeper _) grd want
  have I0 := inv_start (CX := L2.CX P w) (E := E) S room.hd e0 vlen rv ic
  refine wpAny_mono (ht.run [] s1 (L2.start N vs) H _ I0 hq) (fun fl s' hs => ?_) fun _ _ hs => hs
  cases fl with
  | ret u =>
    obtain ⟨v, σ', H', J, rr, q⟩ := hs
    exact ⟨v, H', J.os, J.bare, J.base, J.hok, rr, q⟩
  | next =>
    obtain ⟨σ', H', J, q⟩ := hs
    exact ⟨.non, H', J.os, J.bare, J.base, J.hok, rfl, q⟩
  | brk => obtain ⟨_, _, _, q⟩ := hs; exact q.elim
  | cont => obtain ⟨_, _, _, q⟩ := hs; exact q.elim
/-- THE RULE for a def that may raise -/
theorem okQX {x qual : Str} {st : Stmt} {f : Addr} {fd : FuncData} {N ps : List Str} {k : Nat} {Φ : PhX} (F : Fun K x qual st f fd) (S : FnScope N ps (defScope st)) (len : ∀ us Q R, Φ us Q R → us.length = ps.length)
    (hbody : ∀ (cdv : Value) (A : Around) (outer : List Env) (s : Shared) (H : Hp) (B : Bs) (E : L2.XK) (R : Xn → Prop), Room k (A.deeper (envOfC qual (defScope st) s.heap.objs.size f cdv)) → (A.deeper (envOfC qual (defScope st) s.heap.objs.size f cdv)).guards = some [] →
      LinkX (cxOf (L2.CX P w) P w K mg base N qual (defScope st) f cdv A outer s H E) B R →
      ∃ m fb, XSs (cxOf (L2.CX P w) P w K mg base N qual (defScope st) f cdv A outer s H E) B (defBody st) m fb ∧ ∀ us Q, Φ us Q R → m (entry N us) { nx := fun _ => Q (.d .none), rt := Q }) : FnX P w K mg base (k + 1) f fd ps (spX K mg Φ) := by
  refine okGX F S (fun vs H Q E ⟨G, us, _, d, q⟩ => by rw [d.len]; exact len _ _ _ q) fun cdv A outer s H vs Q E hr hg ⟨G, us, sub, d, q⟩ => ?_
  have gp : ∀ a ∈ Pt.off.pots, G a = none := fun a ha => by rw [off_pots] at ha; cases ha
  have J : ∀ b, Pt.off.J b H := fun b z => by cases z
  obtain ⟨m, fb, xb, hm⟩ := hbody cdv A outer s H ⟨Pt.off, H, G⟩ E (fun x => ∀ cls d H' G', Same G' H' → Same G G' → Ext Pt.off H H' → (∀ a o, G' a = some o → G a = some o ∨ H a = none ∨ IsTupO o) → XnD K mg G' H' cls d x → E cls d H') hr hg ⟨fun cls d _ H => E cls d H, takes_of rfl rfl rfl rfl, fun x cls d σ H' G' e b r xn hR => hR cls d H' G' r.sub r.sub0 r.frame r.grow xn⟩
  refine ⟨_, xb.ps, entry N us, G, 0, rel_entry sub gp (J _) d, xb.mono _ _ _ ⟨fun e q σ' H' G' r s => ?_, fun u q v e' σ' H' G' r s d => ?_, fun e q => False.elim q, fun e q => False.elim q⟩ (hm us _ q)⟩
  · exact q .non H' G' r.sub s r.frame r.grow .non
  · exact q v H' G' r.sub s r.frame r.grow d
end
def PhXM (Φ : PhX) : Prop := ∀ us (Q Q' : U → Prop) (R R' : Xn → Prop), (∀ u, Q u → Q' u) → (∀ x, R x → R' x) → Φ us Q R → Φ us Q' R'
/-- a def of the text that may be called by its name, and may raise -/
structure CalX (P : Program) (w : World) (K : PySem.W.Frag) (mg : Str → Option Value) (base : Heap) (k : Nat) (x : Str) (st : Stmt) (ps : List Str) (Φ : PhX) : Prop where
  mono : PhXM Φ
  nop : ∀ us Q R, Φ us Q R → ∀ u ∈ us, u ≠ .pot
  ex : ∃ q f fd, Fun K q q st f fd ∧ mg x = some (.ref f) ∧ FnX P w K mg base k f fd ps (spX K mg Φ)
  bd : ∀ (q : Str) (kV doc pm : Value) (an : Option Addr) (cdv ct : Value) (us : List Value), us.length = ps.length → bindArgs (PySem.W.fnOf q q (defArgs st) (defBody st) (defScope st) .none kV doc pm an cdv ct) ⟨us, []⟩ = pure (ps.zip us)
theorem CalX.up {P : Program} {w : World} {K : PySem.W.Frag} {mg : Str → Option Value} {base : Heap} {j k : Nat} {x : Str} {st : Stmt} {ps : List Str} {Φ : PhX} (C : CalX P w K mg base j x st ps Φ) (h : j ≤ k) : CalX P w K mg base k x st ps Φ :=
  ⟨C.mono, C.nop, let ⟨q, f, fd, h1, h2, h3⟩ := C.ex; ⟨q, f, fd, h1, h2, h3.up h⟩, C.bd⟩
section
variable {K : PySem.W.Frag} {pt : Pt} {G : Hp}
theorem ud_off {v : V} {u : U} (h : UD K pt G v u) (n : u ≠ .pot) : UD K Pt.off G v u := by
  cases u with
  | pot => exact absurd rfl n
  | d x => exact h
  | raw w => exact h
  | scr ds => exact h
  | tdic kvs => exact h
  | fz ds => exact h
theorem ud_on {v : V} {u : U} (h : UD K Pt.off G v u) : UD K pt G v u := by
  cases u with
  | pot => exact absurd h.1 (by decide)
  | d x => exact h
  | raw w => exact h
  | scr ds => exact h
  | tdic kvs => exact h
  | fz ds => exact h
theorem uds_off : ∀ {vs : List V} {us : List U}, UDs K pt G vs us → (∀ u ∈ us, u ≠ .pot) → UDs K Pt.off G vs us
  | _, _, .nil, _ => .nil
  | _, _, .cons h t, n => .cons (ud_off h (n _ List.mem_cons_self)) (uds_off t fun u hu => n u (List.mem_cons_of_mem _ hu))
end
section
variable {X : Cx} {B : Bs}
/-- behind a call of a def that has no pot -/
theorem rel_behind {b : Nat} {e : En} {σ : L2.St} {G H G' H' : Hp} (r : Rel X.K B b e σ G H) (sub : Same G' H') (sg : Same G G') (x : Ext Pt.off H H') (grow : ∀ a o, G' a = some o → G a = some o ∨ H a = none ∨ IsTupO o) : Rel X.K B b e σ G' H' ∧ Nxt B.pt G H G' H' := by
  have ex : ∀ a o, H a = some o → H' a = some o := fun a o z => x a o z (by rw [off_pots]; exact List.not_mem_nil)
  have ext : Ext B.pt H H' := fun a o z _ => ex a o z
  have gp : ∀ a ∈ B.pt.pots, G' a = none := fun a ha => by
    cases z : G' a with
    | none => rfl
    | some o =>
      obtain ⟨u, hu⟩ := B.pt.there H r.J a ha
      rcases grow a o z with t | t | ⟨xs, t⟩
      · rw [r.gpot a ha] at t; cases t
      · rw [hu] at t; cases t
      · have e1 := (ex a u hu).symm.trans (sub a o z)
        rw [t] at e1
        cases e1
        obtain ⟨on, q⟩ := Pt.mem ha
        have j := potJ_tup (r.J on) xs
        rcases q with q | q
        · exact absurd (q ▸ hu) j.1
        · exact absurd (q ▸ hu) j.2
  have J : B.pt.J b H' := B.pt.loc H H' (fun a ha => by
    obtain ⟨u, hu⟩ := B.pt.there H r.J a ha
    rw [hu, ex a u hu]) r.J
  exact ⟨r.after sub sg gp J ext grow, ⟨sg, ext, fun a o z => (grow a o z).elim .inl fun t => t.elim (fun t => .inr (.inl t)) fun t => .inr (.inr (.inr t))⟩⟩
variable {k : Nat} {st : Stmt} {ps : List Str} {Φ : PhX} {ma mk : MA} {fa : Cst} {R : Xn → Prop} {x : Str} {a : Expr} {es : List Expr} {p pos : Pos}
theorem callX_conv {C : Prop} (hΦ : PhXM Φ) (nop : ∀ us Q R, Φ us Q R → ∀ u ∈ us, u ≠ .pot) {W : WX} (hW : ∀ (x : Xn) (cls : Value) (d : Option Addr) (σ : L2.St) (H G : Hp) (e : En) (b : Nat), Rel X.K B b e σ G H → XnD X.K X.mg G H cls d x → R x → W cls d σ H)
    {e : En} {σ : L2.St} {G H : Hp} {us : List U} {vs : List V} {Q : U → Prop} {RR : VK} {b : Nat} (r : Rel X.K B b e σ G H) (d : UDs X.K B.pt G vs us) (h : Φ us Q R)
    (hq : ∀ u, Q u → ∀ v H' G', Rel X.K B b e σ G' H' → Nxt B.pt G H G' H' → UD X.K B.pt G' v u → RR v H') : spX X.K X.mg Φ vs H RR fun cls d H' => W cls d σ H' :=
  ⟨G, us, r.sub, uds_off d (nop _ _ _ h), hΦ us _ _ _ _ (fun u q v H' G' sub sg x grow d => let ⟨r2, x2⟩ := rel_behind r sub sg x grow; hq u q v H' G' r2 x2 (ud_on d))
    (fun x hx cls d H' G' sub sg x2 grow xn => hW x cls d σ H' G' e b (rel_behind r sub sg x2 grow).1 xn hx) h⟩
theorem runX {f : Addr} {fd : FuncData} {pins : List (Addr × Obj)} {σ : L2.St} {H : Hp} {s : Shared} {Q : VK} {W : WX} {us : List Value} {vs : List V} {sp : List V → Hp → VK → L2.XK → Prop} (F : FnX X.prog X.w X.K X.mg X.base k f fd ps sp) (hr : Room k X.A) (hg : X.A.guards = some []) (tk : Takes X W) {po : List Value} {kw : List (Str × Value)} (hb : us.length = ps.length → BindsTo s fd ⟨po, kw⟩ (ps.zip us))
    (I : Inv X pins σ H s) (r : Vals vs us) (h : sp vs H Q fun cls d H' => W cls d σ H') : wpAny (model X.prog X.w) X.A (call (.ref f) po kw) (EP X pins σ Q) X.xe s := by
  have hl : us.length = ps.length := by rw [← r.length]; exact F.len _ _ _ _ h
  refine wpAny_call (codeAny_mono (F.run X.A X.stack s H ⟨po, kw⟩ us vs Q _ hr hg I.env0 (hb hl) r h) fun res s' hq => ?_)
  match res, hq with
  | .ok (.ret u), hq => exact I.after hq
  | .error er, hq => exact tk er s' (XE.of_call I (fun cls d H' h => h) hq)
end
end Fd

set_option Elab.async false
set_option linter.all false
set_option maxRecDepth 100000
set_option maxHeartbeats 4000000
/-! Fe, part 5: calls of raising defs, raise, try .. except C as n: return [..]. -/
namespace Fd
open PySem PySem.Spec PyProof.Rows L2
section
variable {X : Cx} {B : Bs} {k : Nat} {st : Stmt} {ps : List Str} {Φ : PhX} {ma mk : MA} {fa : Cst} {R : Xn → Prop} {x : Str} {a : Expr} {es : List Expr} {p pos : Pos}
theorem xe_callX (C : CalX X.prog X.w X.K X.mg X.base k x st ps Φ) (L : LinkX X B R) (hr : Room k X.A) (hg : X.A.guards = some []) (ha : XA X B (a :: es) ma fa) (gl : Gl X x := by rfl) (hdb : (x == ("__debug__" : Str)) = false := by decide)
    (he : starEach (a :: es) X.env = (false, eval a X.env) :: starEach es X.env := by rfl) (hpl : (backTo pos (starEach es X.env)).any (·.1) = false := by rfl) : XE X B (.Call (.Name x p) (a :: es) [] pos) (fun e Q => ma e fun us => Φ us Q R) fa := by
  obtain ⟨q0, f, fd, F0, hm, F⟩ := C.ex
  obtain ⟨W, tk, hW⟩ := L.ex
  refine ⟨fun e P P' h q => ha.mono e _ _ (fun us q => C.mono us _ _ _ _ h (fun _ h => h) q) q, ⟨fun pins s σ H Q I ⟨e, G, dd, r, q⟩ => ?_⟩⟩
  have q2 : tMA X.K B ma fa σ H fun vs H1 => spX X.K X.mg Φ vs H1 Q fun cls d H' => W cls d σ H' := ha.go r q fun us q vs H1 G1 r1 x1 d1 => callX_conv (C := True) C.mono C.nop hW r1 d1 q fun u q v H' G' r2 x2 d2 => q v H' G' r2 (x1.trans x2) d2
  refine wpAny_Call_Name_kw (ld_glob I gl hm ?_ hdb)
  refine PySem.W.callWith_K (h₀ := X.base) I.ok.mod.kin F0.kp (thn (ha.pa.run pos pins s σ H _ I q2) fun us s1 ⟨vs, H1, I1, rv, q3⟩ => ⟨I1.kIn, ?_⟩) he hpl
  refine runX F hr hg tk (fun hl => ?_) I1 rv q3
  obtain ⟨oc, od, kV, doc, pm, an, cdv, ct, osl, rfl, _, _⟩ := F0.ex
  exact .of_eq (C.bd q0 kV doc pm an cdv ct us hl)
theorem xe_callXK (is : List Nat) {ks : List Str} {kws : List Keyword} (C : CalX X.prog X.w X.K X.mg X.base k x st ps Φ) (L : LinkX X B R) (hr : Room k X.A) (hg : X.A.guards = some []) (ha : XK X B kws mk fa)
    (hb : ∀ (q : Str) (kV doc pm : Value) (an : Option Addr) (cdv ct : Value) (us : List Value), (permL is us).length = ps.length → us.length = ks.length → bindArgs (PySem.W.fnOf q q (defArgs st) (defBody st) (defScope st) .none kV doc pm an cdv ct) ⟨[], ks.zip us⟩ = pure (ps.zip (permL is us)))
    (hkl : kws.length = ks.length := by rfl) (hks : (backToKw pos (keywordEach kws X.env)).filterMap (·.1) = ks := by rfl) (hall : (backToKw pos (keywordEach kws X.env)).all (·.1.isSome) = true := by rfl)
    (hno : (backToKw pos (keywordEach kws X.env)).any (·.1.isNone) = false := by rfl) (gl : Gl X x := by rfl) (hdb : (x == ("__debug__" : Str)) = false := by decide) :
    XE X B (.Call (.Name x p) [] kws pos) (fun e Q => mk e fun us => Φ (permL is us) Q R) fa := by
  obtain ⟨q0, f, fd, F0, hm, F⟩ := C.ex
  obtain ⟨W, tk, hW⟩ := L.ex
  refine ⟨fun e P P' h q => ha.mono e _ _ (fun us q => C.mono _ _ _ _ _ h (fun _ h => h) q) q, ⟨fun pins s σ H Q I ⟨e, G, dd, r, q⟩ => ?_⟩⟩
  have q2 : tMA X.K B mk fa σ H fun vs H1 => vs.length = ks.length ∧ spX X.K X.mg Φ (permL is vs) H1 Q fun cls d H' => W cls d σ H' := ⟨e, G, _, r, ha.mono e _ _ (fun us q vs H1 G1 r1 x1 d1 => ⟨by rw [d1.len, q.1]; exact hkl, callX_conv (C := True) C.mono C.nop hW r1 (perm_uds d1 is) q.2 fun u q v H' G' r2 x2 d2 => q v H' G' r2 (x1.trans x2) d2⟩) (ha.cnt _ _ q)⟩
  refine wpAny_Call_Name_kw (ld_glob I gl hm ?_ hdb)
  refine PySem.W.callWith_KW0 (h₀ := X.base) I.ok.mod.kin F0.kp hall (thn (ha.pk.run pos pins s σ H _ I q2) fun us s1 ⟨vs, H1, I1, rv, hl, q3⟩ => ?_) hno
  refine ⟨I1.kIn, ?_⟩
  rw [hks]
  refine runX F hr hg tk (fun hl2 => ?_) I1 (perm_vals rv is) q3
  obtain ⟨oc, od, kV, doc, pm, an, cdv, ct, osl, rfl, _, _⟩ := F0.ex
  exact .of_eq (hb q0 kV doc pm an cdv ct us hl2 (by rw [← rv.length]; exact hl))
/-- raise C() -/
theorem xs_raise0 {C : Addr} {e : Expr} (hc : X.calm = true) (L : LinkX X B R) (hm : X.mg x = some (.ref C)) (he : PMk X e (Fe.tMk0 C)) : XS X B (.Raise (some e) none pos) (fun _ _ => R ⟨x, []⟩) cz := by
  obtain ⟨W, tk, hW⟩ := L.ex
  exact ⟨fun e k k' h q => q, psW (ps_raise hc tk he) fun D σ H ⟨e, G, dd, r, q⟩ => hW _ _ _ _ _ _ _ _ r ⟨hm, .inl ⟨rfl, rfl⟩⟩ q⟩
/-- raise C(y), keeping y as f -/
theorem xs_raise1 {C : Addr} {e : Expr} {f : Str} {m : MA} {es : List Expr} (hc : X.calm = true) (L : LinkX X B R) (hm : X.mg x = some (.ref C)) (ha : XA X B es m fa) (he : ∀ {ta : TA}, PA X es ta → PMk X e (Fe.tMk1 C f ta)) : XS X B (.Raise (some e) none pos) (fun e k => m e fun us => ∃ y, us = [.d y] ∧ R ⟨x, [(f, y)]⟩) fa := by
  obtain ⟨W, tk, hW⟩ := L.ex
  refine ⟨fun e k k' h q => q, psW (ps_raise hc tk (he ha.pa)) fun D σ H ⟨e, G, dd, r, q⟩ => ?_⟩
  show tMA X.K B m fa σ H fun vs H1 => _
  refine ha.go r q fun us q vs H1 G1 r1 x1 d1 => ?_
  obtain ⟨y, rfl, q⟩ := q
  cases d1 with
  | @cons v _ _ _ dv t =>
  cases t
  refine ⟨v, rfl, fun d hd => hW _ _ _ _ _ _ _ _ (r1.laid hd _) ⟨hm, .inr ⟨d, f, v, y, rfl, rfl, upd_same, dv⟩⟩ q⟩
end
/-- slots that hold values, none of them the pot -/
def plE (e : En) : Bool := e.all fun s => match s with
  | some (.val .pot) => false
  | some (.val _) => true
  | some _ => false
  | none => true
theorem plE_out {e : En} (h : plE e = true) {i : Nat} {s : Sl} (hs : e[i]? = some (some s)) : ∃ u, s = .val u ∧ u ≠ .pot := by
  have := List.all_eq_true.mp h _ (List.mem_of_getElem? hs)
  cases s with
  | own ds => cases this
  | dic ds => cases this
  | val u =>
    refine ⟨u, rfl, fun z => ?_⟩
    subst z
    cases this
section
variable {K : PySem.W.Frag} {B : Bs} {e e' : En} {σ σ' : L2.St} {G H G' H' : Hp} {b b' : Nat}
theorem Rel.rebase (r : Rel K B b e σ G H) (h : plE e = true) (b' : Nat) : Rel K ⟨Pt.off, H, G⟩ b' e σ G H := by
  refine ⟨r.sub, Same.refl G, fun a o q => .inl q, fun a ha => (by rw [off_pots] at ha; cases ha), (fun z => by cases z), Ext.refl, r.len, fun i u q => ?_, fun i t q hz => ?_, fun i j t u p q _ hz _ _ _ => ?_⟩
  · obtain ⟨v, h1, h2⟩ := r.val i u q
    obtain ⟨u', e1, n⟩ := plE_out h q
    cases e1
    exact ⟨v, h1, ud_off h2 n⟩
  · obtain ⟨u', e1, n⟩ := plE_out h q
    rw [e1] at hz; cases hz
  · obtain ⟨u', e1, n⟩ := plE_out h q
    rw [e1] at hz; cases hz
theorem Rel.unbase (r : Rel K B b e σ G H) (r' : Rel K ⟨Pt.off, H, G⟩ b' e' σ' G' H') : Rel K B b e' σ' G' H' := by
  have ex : ∀ a o, H a = some o → H' a = some o := fun a o z => r'.frame a o z (by rw [off_pots]; exact List.not_mem_nil)
  have same : ∀ a ∈ B.pt.pots, H' a = H a := fun a ha => by
    obtain ⟨u, hu⟩ := B.pt.there H r.J a ha
    rw [hu, ex a u hu]
  refine ⟨r'.sub, r.sub0.trans r'.sub0, fun a o q => ?_, fun a ha => ?_, B.pt.loc H H' same r.J, fun a o q n => ex a o (r.frame a o q n), r'.len, fun i u q => ?_, fun i t q hz => ?_, r'.sep⟩
  · rcases r'.grow a o q with z | z | z
    · exact r.grow a o z
    · exact .inr (.inl (r.old z))
    · exact .inr (.inr z)
  · cases z : G' a with
    | none => rfl
    | some o =>
      obtain ⟨u, hu⟩ := B.pt.there H r.J a ha
      rcases r'.grow a o z with t | t | ⟨xs, t⟩
      · have t : G a = some o := t
        rw [r.gpot a ha] at t; cases t
      · have t : H a = none := t
        rw [hu] at t; cases t
      · have e1 := (ex a u hu).symm.trans (r'.sub a o z)
        rw [t] at e1
        cases e1
        obtain ⟨on, q⟩ := Pt.mem ha
        have j := potJ_tup (r.J on) xs
        rcases q with q | q
        · exact absurd (q ▸ hu) j.1
        · exact absurd (q ▸ hu) j.2
  · obtain ⟨v, h1, h2⟩ := r'.val i u q
    exact ⟨v, h1, ud_on h2⟩
  · obtain ⟨p, o, h1, h2, h3, h4, h5, h6⟩ := r'.own i t q hz
    have h5 : H p = none := h5
    exact ⟨p, o, h1, h2, h3, h4, r.old h5, r.nopot h5⟩
end
/-- what an except suite puts into its answer -/
structure SuA (X : Cx) (i : Nat) (es : List Expr) (gx : Xn → List PyData → Prop) : Prop where
  run : ∀ (a : Addr) (oe : Obj) (cls : Value) (d : Option Addr) (pn : List (Addr × Obj)), Zc cls d oe → (∃ vs, oe.data = .fields vs) → ∃ t, PA (X.suite a ((a, oe) :: pn)) es t ∧
    ∀ (σ : L2.St) (H G : Hp) (x : Xn) (ds : List PyData) (Q : List V → Hp → Prop), XnD X.K X.mg G H cls d x → σ[i]? = some (some (.ref a)) → gx x ds → (∀ vs, Dats X.K G vs ds → Q vs H) → t σ H Q
section
variable {X : Cx} {B : Bs} {i : Nat} {es : List Expr} {gx : Xn → List PyData → Prop}
theorem sua_nil : SuA X i [] (fun _ ds => ds = []) := ⟨fun a oe cls d pn hz hf => ⟨_, pa_nil, fun σ H G x ds Q xn hi hg q => by
  subst hg
  exact q [] .nil⟩⟩
theorem sua_str {w : Str} {j : Nat} {pos : Pos} (h : SuA X i es gx) (hs : starEach (.Constant (.str w) j pos :: es) X.env = (false, eval (.Constant (.str w) j pos) X.env) :: starEach es X.env := by rfl) : SuA X i (.Constant (.str w) j pos :: es) (fun x ds => ∃ ds', ds = .str w :: ds' ∧ gx x ds') := ⟨fun a oe cls d pn hz hf => by
  obtain ⟨t, ht, hc⟩ := h.run a oe cls d pn hz hf
  refine ⟨_, pa_cons pe_str ht hs, fun σ H G x ds Q xn hi hg q => ?_⟩
  obtain ⟨ds', rfl, hg⟩ := hg
  exact hc σ H G x ds' _ xn hi hg fun vs dv => q _ (.cons (.str w) dv)⟩
theorem sua_field {cn n f : Str} {C : Addr} {np pos : Pos} (h : SuA X i es gx) (T : XfC X.K C) (hno : PySem.W.findIn X.K (.ref C) f = some none) (hm : X.mg cn = some (.ref C)) (hN : X.N[i]? = some n) (hv : Vis X.env.scope n) (hd : (n == ("__debug__" : Str)) = false) (hcd : (n == ("__classdict__" : Str)) = false)
    (hb : attributeBase (.Name n np) f X.env (eval (.Name n np) X.env) = eval (.Name n np) X.env := by rfl)
    (hs : starEach (.Attribute (.Name n np) f pos :: es) X.env = (false, eval (.Attribute (.Name n np) f pos) X.env) :: starEach es X.env := by rfl) :
    SuA X i (.Attribute (.Name n np) f pos :: es) (fun x ds => ∃ d ds', ds = d :: ds' ∧ x.nm = cn ∧ x.fs = [(f, d)] ∧ gx x ds') := ⟨fun a oe cls d pn hz hf => by
  obtain ⟨t, ht, hc⟩ := h.run a oe cls d pn hz hf
  refine ⟨_, pa_cons (pe_xf T hno hz hf (pe_var hN hv hd hcd) hb) ht hs, fun σ H G x ds Q xn hi hg q => ?_⟩
  obtain ⟨y, ds', rfl, e1, e2, hg⟩ := hg
  obtain ⟨h1, h2⟩ := xn
  rw [e1, hm] at h1
  cases h1
  rcases h2 with ⟨h2, _⟩ | ⟨dd, f', v, y', h2, h3, h4, h5⟩
  · rw [e2] at h2; cases h2
  · rw [e2] at h3
    cases h3
    refine ⟨.ref a, hi, rfl, rfl, dd, _, v, h2, h4, by simp [List.lookup], ?_⟩
    exact hc σ H G x ds' _ ⟨by rw [e1]; exact hm, .inr ⟨dd, f, v, y, h2, e2, h4, h5⟩⟩ hi hg fun vs dv => q _ (.cons h5 dv)⟩
theorem sua_isi {cn cb n : Str} {C Cb : Addr} {bt : Bool} {fp np bp pos : Pos} (h : SuA X i es gx) (T : ExcC X.K C) (hk : PySem.W.kitOne X.K (.ref C) (.ref Cb) = some bt) (hm : X.mg cn = some (.ref C)) (hmb : X.mg cb = some (.ref Cb)) (hgb : Gl X cb) (hdb : (cb == ("__debug__" : Str)) = false) (hmi : X.mg "isinstance" = none) (hgi : Gl X "isinstance")
    (hN : X.N[i]? = some n) (hv : Vis X.env.scope n) (hd : (n == ("__debug__" : Str)) = false) (hcd : (n == ("__classdict__" : Str)) = false)
    (he : starEach [.Name n np, .Name cb bp] X.env = (false, eval (.Name n np) X.env) :: starEach [.Name cb bp] X.env := by rfl) (he2 : starEach [.Name cb bp] X.env = (false, eval (.Name cb bp) X.env) :: starEach [] X.env := by rfl) (hpl : (backTo pos (starEach [.Name cb bp] X.env)).any (·.1) = false := by rfl)
    (hs : starEach (.Call (.Name "isinstance" fp) [.Name n np, .Name cb bp] [] pos :: es) X.env = (false, eval (.Call (.Name "isinstance" fp) [.Name n np, .Name cb bp] [] pos) X.env) :: starEach es X.env := by rfl) :
    SuA X i (.Call (.Name "isinstance" fp) [.Name n np, .Name cb bp] [] pos :: es) (fun x ds => ∃ ds', ds = .bool bt :: ds' ∧ x.nm = cn ∧ x.fs = [] ∧ gx x ds') := ⟨fun a oe cls d pn hz hf => by
  obtain ⟨t, ht, hc⟩ := h.run a oe cls d pn hz hf
  by_cases hcl : cls = .ref C ∧ d = none
  · obtain ⟨rfl, rfl⟩ := hcl
    refine ⟨_, pa_cons (pe_callB (call_isE T hz hf) hgi hmi (by first | rfl | kernel_rfl) (pa_cons (pe_var hN hv hd hcd) (pa_cons (pe_glob (v := .ref Cb) hgb hmb rfl hdb) pa_nil he2) he) (by decide) (by decide) he hpl) ht hs, fun σ H G x ds Q xn hi hg q => ?_⟩
    obtain ⟨ds', rfl, e1, e2, hg⟩ := hg
    refine ⟨.ref a, hi, .ref Cb, .ref Cb, bt, rfl, fun u hu => hu, hk, ?_⟩
    exact hc σ H G x ds' _ xn hi hg fun vs dv => q _ (.cons (.bl bt) dv)
  · refine ⟨fun _ _ _ => False, ⟨fun _ _ _ _ _ _ _ q => q.elim⟩, fun σ H G x ds Q xn hi hg q => ?_⟩
    obtain ⟨ds', rfl, e1, e2, hg⟩ := hg
    obtain ⟨h1, h2⟩ := xn
    rw [e1, hm] at h1
    refine hcl ⟨(Option.some.inj h1).symm, ?_⟩
    rcases h2 with ⟨_, h2⟩ | ⟨dd, f', v, y', h2, h3, _⟩
    · exact h2
    · rw [e2] at h3; cases h3⟩
theorem takes_len {X : Cx} {W : WX} (tk : Takes X W) : Takes X (fun cls d σ H => σ.length = X.N.length → W cls d σ H) := fun u s' ⟨a, B, sI, pins, σ, H, cls, d, e, I, nb, up, sky, na, os, ag, w⟩ =>
  tk u s' ⟨a, B, sI, pins, σ, H, cls, d, e, I, nb, up, sky, na, os, ag, w I.len⟩
/-- try: .. except C as n: return [..] -/
def mTryX (mb : (Xn → Prop) → MS) (cn : Str) (gx : Xn → List PyData → Prop) (f : List PyData → PyData) : MS := fun e k => ∃ k0, Kle k0 k ∧ plE e = true ∧ mb (fun x => x.nm = cn ∧ ∃ ds, gx x ds ∧ ds.length ≤ 1000000 ∧ k0.rt (.d (f ds))) e k0
theorem mTryX_mk {mb : (Xn → Prop) → MS} {cn : Str} {gx : Xn → List PyData → Prop} {f : List PyData → PyData} {e : En} {k : Kt} (h : plE e = true) (q : mb (fun x => x.nm = cn ∧ ∃ ds, gx x ds ∧ ds.length ≤ 1000000 ∧ k.rt (.d (f ds))) e k) : mTryX mb cn gx f e k := ⟨k, ⟨fun _ q => q, fun _ q => q, fun _ q => q, fun _ q => q⟩, h, q⟩
theorem xs_tryL {cn n : Str} {C : Addr} {body : List Stmt} {mb : (Xn → Prop) → MS} {fb : Cst} {lp rp np pos' pos : Pos} (hs : X.stack = X.env :: X.outer) (hf : X.env.frame = some X.env.locals) (hN : X.N.Nodup) (hi : X.N[i]? = some n) (hln : X.env.kindOf n = some .local) (hc : Names X cn (.ref C)) (hcm : X.mg cn = some (.ref C)) (hex : PySem.W.exmOne X.K (.ref C) (.ref C) = some true)
    (hb : ∀ (pn : List (Addr × Obj)) (xe : Value → Shared → Prop) (B' : Bs) (R : Xn → Prop), LinkX (X.tr pn xe) B' R → XSs (X.tr pn xe) B' body (mb R) fb) (su : SuA X i es gx) :
    XS X B (.Try body [.ExceptHandler (some (.Name cn np)) (some n) [.Return (some (.List es lp)) rp] pos'] [] [] pos) (mTryX mb cn gx .list) fb := by
  refine ⟨fun e k k' h ⟨k0, h0, h1, q⟩ => ⟨k0, ⟨fun e q => h.nx e (h0.nx e q), fun u q => h.rt u (h0.rt u q), fun e q => h.bk e (h0.bk e q), fun e q => h.ct e (h0.ct e q)⟩, h1, q⟩, psW (ps_try_as (i := i) (Wout := fun _ _ _ _ => False)
    (tb := fun W D σ H => ∃ B' R, (∀ (x : Xn) (cls : Value) (d : Option Addr) (σ : L2.St) (H G : Hp) (e : En) (b : Nat), Rel X.K B' b e σ G H → XnD X.K X.mg G H cls d x → R x → σ.length = X.N.length → W cls d σ H) ∧ tMS X.K B' (mb R) fb D σ H)
    (ts := fun a cls d D σ H => σ[i]? = some (some (.ref a)) ∧ ∃ G x ds, XnD X.K X.mg G H cls d x ∧ gx x ds ∧ ds.length ≤ 1000000 ∧ ∀ vs p, Dats X.K G vs ds → H p = none → D.rt (.ref p) (upd H p (.lst vs)))
    hs hf hN hi hln hc takes_none5 (fun W pn xe tk _ => ?_) (fun a oe cls d pn hz hfl => ?_)) fun D σ H ⟨e, G, bd, r, k0, hk, hpl, q⟩ => ?_⟩
  · refine ⟨fun pins s σ H D I ⟨B', R, hR, h⟩ => ?_⟩
    exact (hb pn xe B' R ⟨fun cls d σ H => σ.length = X.N.length → W cls d σ H, takes_len tk, hR⟩).ps.run pins s σ H D I h
  · obtain ⟨t, ht, hcv⟩ := su.run a oe cls d pn hz hfl
    refine pssW (pss_one (ps_ret (pe_lst ht))) fun D σ H ⟨hi', G, x, ds, xn, hg, hl, hq⟩ => ?_
    refine hcv σ H G x ds _ xn hi' hg fun vs dv => ⟨by rw [dv.len]; exact le_line hl, fun p hp => hq vs p dv hp⟩
  · have r0 := r.le (fb.2 bd)
    refine ⟨⟨Pt.off, H, G⟩, _, fun x cls d σ2 H2 G2 e2 b2 r2 xn hR hlen => ?_, e, G, bd, r.rebase hpl _, (hb [] (fun _ _ => True) ⟨Pt.off, H, G⟩ _ ⟨fun _ _ _ _ => True, fun _ _ _ => trivial, fun _ _ _ _ _ _ _ _ _ _ _ => trivial⟩).mono _ _ _ ⟨fun e' q σ' H' G' r' s' => hk.nx e' q σ' H' G' (r0.unbase r') s', fun u q v e' σ' H' G' r' s' d' => hk.rt u q v e' σ' H' G' (r0.unbase r') s' (ud_on d'), fun e' q σ' H' G' r' s' => hk.bk e' q σ' H' G' (r0.unbase r') s', fun e' q σ' H' G' r' s' => hk.ct e' q σ' H' G' (r0.unbase r') s'⟩ q⟩
    obtain ⟨hnm, ds, hg, hl, hrt⟩ := hR
    have hcl : cls = .ref C := by
      have h1 := xn.1
      rw [hnm, hcm] at h1
      exact (Option.some.inj h1).symm
    subst hcl
    have hiN : i < σ2.length := by
      rw [hlen]
      rcases Nat.lt_or_ge i X.N.length with z | z
      · exact z
      · rw [List.getElem?_eq_none z] at hi; cases hi
    refine ⟨true, hex, fun _ a na => ⟨List.getElem?_set_self hiN, G2, x, ds, xn, hg, hl, fun vs p dv hp => ?_⟩, fun z => nomatch z⟩
    have r3 := (r0.unbase r2).new hp (.lst vs)
    have gp := r2.gold hp
    have sg := same_laid gp (HO.lst vs)
    exact hk.rt _ hrt (.ref p) e2 σ2 _ _ r3 (r2.sub0.trans sg) (.lst upd_same (dv.mono sg))
theorem xs_tryT {cn n : Str} {C : Addr} {body : List Stmt} {mb : (Xn → Prop) → MS} {fb : Cst} {lq : Nat} {lp rp np pos' pos : Pos} (hs : X.stack = X.env :: X.outer) (hf : X.env.frame = some X.env.locals) (hN : X.N.Nodup) (hi : X.N[i]? = some n) (hln : X.env.kindOf n = some .local) (hc : Names X cn (.ref C)) (hcm : X.mg cn = some (.ref C)) (hex : PySem.W.exmOne X.K (.ref C) (.ref C) = some true)
    (hb : ∀ (pn : List (Addr × Obj)) (xe : Value → Shared → Prop) (B' : Bs) (R : Xn → Prop), LinkX (X.tr pn xe) B' R → XSs (X.tr pn xe) B' body (mb R) fb) (su : SuA X i es gx) :
    XS X B (.Try body [.ExceptHandler (some (.Name cn np)) (some n) [.Return (some (.Tuple es lq lp)) rp] pos'] [] [] pos) (mTryX mb cn gx .tuple) fb := by
  refine ⟨fun e k k' h ⟨k0, h0, h1, q⟩ => ⟨k0, ⟨fun e q => h.nx e (h0.nx e q), fun u q => h.rt u (h0.rt u q), fun e q => h.bk e (h0.bk e q), fun e q => h.ct e (h0.ct e q)⟩, h1, q⟩, psW (ps_try_as (i := i) (Wout := fun _ _ _ _ => False)
    (tb := fun W D σ H => ∃ B' R, (∀ (x : Xn) (cls : Value) (d : Option Addr) (σ : L2.St) (H G : Hp) (e : En) (b : Nat), Rel X.K B' b e σ G H → XnD X.K X.mg G H cls d x → R x → σ.length = X.N.length → W cls d σ H) ∧ tMS X.K B' (mb R) fb D σ H)
    (ts := fun a cls d D σ H => σ[i]? = some (some (.ref a)) ∧ ∃ G x ds, XnD X.K X.mg G H cls d x ∧ gx x ds ∧ ds.length ≤ 1000000 ∧ ∀ vs p, Dats X.K G vs ds → H p = none → D.rt (.ref p) (upd H p (.tup vs)))
    hs hf hN hi hln hc takes_none5 (fun W pn xe tk _ => ?_) (fun a oe cls d pn hz hfl => ?_)) fun D σ H ⟨e, G, bd, r, k0, hk, hpl, q⟩ => ?_⟩
  · refine ⟨fun pins s σ H D I ⟨B', R, hR, h⟩ => ?_⟩
    exact (hb pn xe B' R ⟨fun cls d σ H => σ.length = X.N.length → W cls d σ H, takes_len tk, hR⟩).ps.run pins s σ H D I h
  · obtain ⟨t, ht, hcv⟩ := su.run a oe cls d pn hz hfl
    refine pssW (pss_one (ps_ret (pe_tup ht))) fun D σ H ⟨hi', G, x, ds, xn, hg, hl, hq⟩ => ?_
    refine hcv σ H G x ds _ xn hi' hg fun vs dv => ⟨by rw [dv.len]; exact le_line hl, fun p hp => hq vs p dv hp⟩
  · have r0 := r.le (fb.2 bd)
    refine ⟨⟨Pt.off, H, G⟩, _, fun x cls d σ2 H2 G2 e2 b2 r2 xn hR hlen => ?_, e, G, bd, r.rebase hpl _, (hb [] (fun _ _ => True) ⟨Pt.off, H, G⟩ _ ⟨fun _ _ _ _ => True, fun _ _ _ => trivial, fun _ _ _ _ _ _ _ _ _ _ _ => trivial⟩).mono _ _ _ ⟨fun e' q σ' H' G' r' s' => hk.nx e' q σ' H' G' (r0.unbase r') s', fun u q v e' σ' H' G' r' s' d' => hk.rt u q v e' σ' H' G' (r0.unbase r') s' (ud_on d'), fun e' q σ' H' G' r' s' => hk.bk e' q σ' H' G' (r0.unbase r') s', fun e' q σ' H' G' r' s' => hk.ct e' q σ' H' G' (r0.unbase r') s'⟩ q⟩
    obtain ⟨hnm, ds, hg, hl, hrt⟩ := hR
    have hcl : cls = .ref C := by
      have h1 := xn.1
      rw [hnm, hcm] at h1
      exact (Option.some.inj h1).symm
    subst hcl
    have hiN : i < σ2.length := by
      rw [hlen]
      rcases Nat.lt_or_ge i X.N.length with z | z
      · exact z
      · rw [List.getElem?_eq_none z] at hi; cases hi
    refine ⟨true, hex, fun _ a na => ⟨List.getElem?_set_self hiN, G2, x, ds, xn, hg, hl, fun vs p dv hp => ?_⟩, fun z => nomatch z⟩
    have r3 := (r0.unbase r2).new hp (.tup vs)
    have gp := r2.gold hp
    have sg := same_laid gp (HO.tup vs)
    exact hk.rt _ hrt (.ref p) e2 σ2 _ _ r3 (r2.sub0.trans sg) (.tup upd_same (dv.mono sg))
/-- nothing is raised -/
theorem link_none {X : Cx} {B : Bs} : LinkX X B (fun _ => False) := ⟨⟨fun _ _ _ _ => False, takes_none5, fun _ _ _ _ _ _ _ _ _ _ h => h.elim⟩⟩
end
end Fd

set_option Elab.async false
set_option linter.all false
set_option maxRecDepth 100000
set_option maxHeartbeats 4000000
/-! Fe, part 6: what the written part says of an exception class. -/
namespace Fd
open PySem PySem.Spec PyProof.Rows L2
/-- the class nm over base, its __init__ of these parameters, this body, these names; f the field that it keeps -/
structure ExT (P : Program) (K : PySem.W.Frag) (mg : Str → Option Value) (nm base f : Str) (params : Arguments) (body : List Stmt) (ns : List (Str × NameKind)) (C fI Cb : Addr) : Prop where
  g : mg nm = some (.ref C)
  gb : mg base = some (.ref Cb)
  k : Fe.ExcK P K mg C fI params body ns
  n : PySem.W.findIn K (.ref C) f = some none
  x : XfC K C
  c : ExcC K C
  ex : PySem.W.exmOne K (.ref C) (.ref C) = some true
  kit : PySem.W.kitOne K (.ref C) (.ref Cb) = some true
theorem along_of {K : PySem.W.Frag} {C N : Addr} {nm q : Str} {bs bm sub : List Value} {hd ab : Bool} {sn : List Str} {col : Option Bool} {dd : Option Addr} {k0 k1 k2 k3 k5 : Option Value} {nid : String} {n : Str} {r : Option Value}
    (xl : K.lookup C = some (excClassObj nm q C N bs bm hd sn sub ab col dd k0 k1 k2 k3 k5 nid)) (xf : PySem.W.findIn K (.ref C) n = some r) : PySem.W.alongIn K n (.ref C :: bm) = some r := by
  have xl2 : List.lookup C K = some (excClassObj nm q C N bs bm hd sn sub ab col dd k0 k1 k2 k3 k5 nid) := xl
  simp only [PySem.W.findIn, xl2] at xf
  exact xf
theorem ext_mk {P : Program} {K : PySem.W.Frag} {h : Heap} {mg : Str → Option Value} {nm base f : Str} {params : Arguments} {body : List Stmt} {ns : List (Str × NameKind)} {C fI Cb N cda cc : Addr} {n1 q1 : Str} {bs : List Value} {sn : List Str} {sub : List Value} {ab : Bool} {col : Option Bool} {dd : Option Addr} {m0 m1 m2 m3 m5 : Option Value}
    {fn fq : Str} {kV doc pm ct oc : Value} {an od : Option Addr} {osl : Array (Option Value)} {cl1 : Value} {cd1 : Option Addr} {vs : Array Value} {sl1 : Array (Option Value)} {file : Str} {tf : Tok} {cl2 : Value} {cd2 : Option Addr} {sl2 : Array (Option Value)}
    (X : K.In h) (G : h.Ns mainGlobals mg)
    (aC : PySem.W.nsIn K mainGlobals nm = some (some (.ref C))) (aB : PySem.W.nsIn K mainGlobals base = some (some (.ref Cb)))
    (xL : K.lookup C = some (excClassObj n1 q1 C N bs [.ref Cb, .type "ValueError", .type "Exception", .type "BaseException", .type "object"] true sn sub ab col dd m0 m1 m2 m3 m5 "ValueError.__new__"))
    (al : PySem.W.alongIn K "__init__" [.ref Cb, .type "ValueError", .type "Exception", .type "BaseException", .type "object"] = some (some (.builtin "ValueError.__init__")))
    (op : PySem.W.nsIn K cStatics "thirdparty.any" = some none)
    (lf : K.lookup fI = some ⟨oc, od, .func (PySem.W.ksFn fn fq params body (Fe.scI ns) .none kV doc pm an (.ref cda) ct cc), osl⟩) (cf : PySem.W.codeIn K (.ref cda) fq = true)
    (lc : K.lookup cda = some ⟨cl1, cd1, .fields vs, sl1⟩) (vf : vs[2]? = some (.str file tf)) (ff : ((P.main.file : Str) == file) = true)
    (lq : K.lookup cc = some ⟨cl2, cd2, .cell (some (.ref C)), sl2⟩) (zs : PySem.W.nsIn K mainGlobals "super" = some none) (tp : (P.main.scope.names.lookup ("super" : Str)).isSome = false)
    (iC : PySem.W.findIn K (.ref C) "__init__" = some (some (.ref fI))) (tI : PySem.W.typeIn K (.ref fI) = some (.type "function")) (kC : PySem.W.keepIn K (.ref C) = true)
    (sa : PySem.W.findIn K (.ref C) "__setattr__" = some (some (.builtin "object.__setattr__"))) (eC : PySem.W.subIn K (.ref C) (.type "BaseException") = some true) (tC : PySem.W.typeIn K (.ref C) = some (.type "type"))
    (nf : PySem.W.findIn K (.ref C) f = some none) (ga : PySem.W.findIn K (.ref C) "__getattribute__" = some (some (.builtin "BaseException.__getattribute__"))) (gg : PySem.W.findIn K (.ref C) "__getattr__" = some none) (hC : PySem.W.hasDictIn K C = true)
    (ha : PySem.W.findIn K (.ref C) "__class__" = some (some (.builtin "object.__class__"))) (hn : PySem.W.specialIn K (.builtin "object.__class__") "__get__" = some (some (.builtin "getset_descriptor.__get__"))) (ht : PySem.W.takesIn K (.builtin "object.__class__") = some true) (hm : PySem.W.mroIn K C (.type "object") = some true)
    (sC : PySem.W.subIn K (.ref C) (.ref C) = some true) (kt : PySem.W.kitOne K (.ref C) (.ref Cb) = some true) : ExT P K mg nm base f params body ns C fI Cb where
  g := PySem.W.mg_of X G aC
  gb := PySem.W.mg_of X G aB
  k := ⟨⟨fn, fq, kV, doc, pm, ct, an, cda, cc, ⟨⟨n1, q1, N, bs, _, sn, sub, ab, col, dd, m0, m1, m2, m3, m5, xL, by show (HandSPX.veTail == HandSPX.veTail) = true; decide +kernel, al⟩, op, ⟨_, _, _, lf⟩, ⟨_, _, _, _, _, _, lc, vf, ff⟩, ⟨_, _, _, lq⟩, PySem.W.mg_none_of X G zs, tp⟩, cf⟩, iC, tI, kC, sa, eC, tC⟩
  n := nf
  x := ⟨ga, gg, eC, hC⟩
  c := ⟨ga, gg, eC, hC, ha, hn, ht, hm⟩
  ex := PySem.W.exm_ref eC hC tC sC
  kit := kt
end Fd

set_option Elab.async false
set_option linter.all false
set_option maxRecDepth 100000
set_option maxHeartbeats 4000000
/-! Fd, part 8: zip of lists and tuples, one to twelve, its tuples taken apart. -/
namespace Fd
open PySem PySem.Spec PyProof.Rows L2
open PySem.Sem (wp)
/-- zip's state, its tuple not held -/
structure ZAtN (h : Heap) (z TI TO : Addr) (ps : List Zp) (k : Nat) : Prop where
  z : ZObj h z TI TO .none false
  ti : ZTup h TI (ps.map fun p => Value.ref p.it)
  to : ∃ vs : List Value, vs.length = ps.length ∧ ZTup h TO vs
  its : ∀ p ∈ ps, p.At h k
theorem ZAtN.zat {h : Heap} {z TI TO : Addr} {ps : List Zp} {k : Nat} (a : ZAtN h z TI TO ps k) : ZAt h z TI TO ps k := ⟨⟨_, _, .inl rfl, a.z⟩, a.ti, a.to, a.its⟩
section
variable {prog : Program} {w : World} {A : Around} {E : Value → Shared → Prop} {s : Shared} {h h' : Heap} {p : Zp} {k : Nat} {xs : List Value} {x : Value}
theorem ztnext_item {z TI TO : Addr} {ps : List Zp} {f : Zp → Value} {Q : Value → Shared → Prop} (D : ZApart z TI TO ps) (ne : ps ≠ []) (hl : ps.length ≤ 1000) (st : ZAtN s.heap z TI TO ps k)
    (hx : ∀ p ∈ ps, ∃ xs : List Value, p.Of s.heap xs ∧ xs[k]? = some (f p))
    (hQ : ∀ h', ZObj h' z TI TO (rawInt s.heap.objs.size) false → (ZTup h' TI (ps.map fun p => Value.ref p.it)) → (∃ vs : List Value, vs.length = ps.length ∧ ZTup h' TO vs) → (∀ p ∈ ps, p.At h' (k + 1)) → ZTup h' s.heap.objs.size (ps.map f) → h'.objs.size = s.heap.objs.size + 1 → ZKeep z TO ps s.heap h' → Q (.ref s.heap.objs.size) { s with heap := h' }) :
    wpAny (model prog w) A (Builtin.«zip.__next__» ⟨[.ref z], []⟩) (fun fin s' => ∃ v, fin = .done (.ret v) ∧ Q v s') E s := by
  have hz := st.z
  obtain ⟨old, ol, hTO⟩ := st.to
  show wpAny _ _ (field (.ref z) 2 >>= _) _ _ _
  refine wpAny_bind (wpAny_field hz rfl (x := .bool false) rfl ?_)
  show wpAny _ _ (field (.ref z) 3 >>= _) _ _ _
  refine wpAny_bind (wpAny_field hz rfl (x := .ref TI) rfl ?_)
  refine wpAny_bind (wpAny_seqItems st.ti rfl ?_)
  have hem : (ps.map fun p => Value.ref p.it).toArray.isEmpty = false := by
    cases ps with
    | nil => exact absurd rfl ne
    | cons p ps => rfl
  simp only [hem, Bool.false_eq_true, if_false]
  refine wpAny_bind ?_
  unfold Builtin.SmallTypes.ownedTupleIsFree
  refine wpAny_bind (wpAny_field hz rfl (x := .none) rfl (wpAny_pure ?_))
  simp only [if_true]
  have hz₁ : ZObj s.heap z TI TO .none false := hz
  have kp₁ : ZKeep z TO ps s.heap s.heap := .refl
  have hTO₁ : ZTup s.heap TO old := hTO
  have its₁ : ∀ p ∈ ps, p.At s.heap k := st.its
  refine wpAny_bind (wpAny_rule ?_)
  refine wpAny_bind (wpAny_field hz₁ rfl (x := .ref TO) rfl ?_)
  refine wpAny_bind (wpAny_setField_rec hz₁ (by simp) fun h₂ hz₂ hs₂ => ?_)
  replace hz₂ : ZObj h₂ z TI TO .ellipsis false := hz₂
  have kp₂ : ZKeep z TO ps s.heap h₂ := kp₁.trans fun c o c1 _ _ e => hs₂.extBut _ _ c1 e
  refine wpAny_bind (wpAny_mono (wpAny_forIn_list _ (fun (l : List (Value × Nat)) (b : Option Fin × Unit) s' => b = (none, ()) ∧ ∃ dn rs h', l = (rs.map fun p => Value.ref p.it).zipIdx dn.length ∧ s' = { s with heap := h' } ∧ ZMid s z TI TO ps f old k false dn rs h')
    (fun b s' => b = (none, ()) ∧ ∃ h', s' = { s with heap := h' } ∧ ZMid s z TI TO ps f old k false ps [] h') ?turn ?fin _ _ ?start) (fun b s' hq => ?after) fun _ _ x => x)
  case start =>
    refine ⟨rfl, [], ps, h₂, rfl, rfl, ⟨rfl, hz₂, ?_, fun p hp => (nomatch hp), fun p hp => (its₁ p hp).to fun o e => hs₂.extBut _ _ (D.iz p hp) e, hs₂.1, kp₂⟩⟩
    exact hs₂.extBut _ _ D.TOz hTO₁
  case fin =>
    rintro b s' ⟨hb, dn, rs, h', el, es, m⟩
    refine ⟨hb, h', es, ?_⟩
    cases rs with
    | cons p rs => rw [List.map_cons, List.zipIdx_cons] at el; cases el
    | nil =>
      have e := m.eq
      rw [List.append_nil] at e
      subst e
      exact m
  case turn =>
    rintro x rest b s' ⟨hb, dn, rs, h', el, es, m⟩
    subst hb es
    cases rs with
    | nil => cases el
    | cons p rs =>
      rw [List.map_cons, List.zipIdx_cons] at el
      cases el
      have hp : p ∈ ps := by rw [m.eq]; simp
      obtain ⟨xs, hof, hxs⟩ := hx p hp
      refine wpAny_bind (wpAny_onRaise ?_)
      show wpAny _ _ (Builtin.SmallTypes.nextOf (.ref p.it) >>= _) _ _ _
      refine wpAny_bind (zp_item (s := { s with heap := h' }) (m.due p List.mem_cons_self) (hof.to fun o e => m.kp _ o (D.sz p hp) (D.sTO p hp) (D.si p hp) e) hxs fun h₃ at₃ sb₃ => wpAny_pure ?_)
      have hTO₃ : ZTup h₃ TO (dn.map f ++ old.drop dn.length) := sb₃.extBut _ _ (D.iTO p hp).symm m.to
      have hlen : ps.length = dn.length + (rs.length + 1) := by rw [m.eq, List.length_append, List.length_cons]
      refine wpAny_bind (wpAny_seqItems hTO₃ rfl ?_)
      refine wpAny_bind (zset hTO₃ (by rw [List.length_append, List.length_map, List.length_drop]; omega) fun h₄ hTO₄ sb₄ => ?_)
      rw [set_mid f dn p old (by omega)] at hTO₄
      refine wpAny_bind (wpAny_letGo (wpAny_pure ?_))
      have nd := D.nd
      have epp : ps = (dn ++ [p]) ++ rs := by rw [m.eq]; simp
      rw [epp, List.map_append, List.nodup_append, List.map_append, List.nodup_append] at nd
      have up : ∀ q ∈ ps, q.it ≠ p.it → ∀ o, h'.get? q.it = some o → h₄.get? q.it = some o := fun q hq hn o e => sb₄.extBut _ _ (D.iTO q hq) (sb₃.extBut _ _ hn e)
      refine ⟨rfl, dn ++ [p], rs, h₄, by rw [List.length_append]; rfl, rfl, ⟨epp, ?_, hTO₄, fun q hq => ?_, fun q hq => ?_, ?_, ?_⟩⟩
      · exact sb₄.extBut _ _ D.TOz.symm (sb₃.extBut _ _ (D.iz p hp).symm m.zo)
      · rcases List.mem_append.mp hq with z1 | z1
        · refine (m.did q z1).to fun o e => up q (by rw [m.eq]; exact List.mem_append_left _ z1) ?_ o e
          exact nd.1.2.2 q.it (List.mem_map.mpr ⟨q, z1, rfl⟩) p.it (by simp)
        · rw [List.mem_singleton.mp z1]
          exact at₃.to fun o e => sb₄.extBut _ _ (D.iTO p hp) e
      · refine (m.due q (List.mem_cons_of_mem _ hq)).to fun o e => up q (by rw [m.eq]; exact List.mem_append_right _ (List.mem_cons_of_mem _ hq)) ?_ o e
        exact (nd.2.2 p.it (by simp) q.it (List.mem_map.mpr ⟨q, hq, rfl⟩)).symm
      · rw [sb₄.1, sb₃.1]; exact m.sz
      · exact m.kp.trans fun c o c1 c2 c3 e => sb₄.extBut _ _ c2 (sb₃.extBut _ _ (c3 p hp) e)
  case after =>
    obtain ⟨rfl, h', rfl, m⟩ := hq
    have hTO' : ZTup h' TO (ps.map f) := by
      have := m.to
      rw [List.drop_of_length_le (by omega), List.append_nil] at this
      exact this
    refine wpAny_bind (wpAny_seqItems hTO' rfl ?_)
    refine wpAny_bind (wpAny_newTuple ?_ (by show (ps.map f).length ≤ sizeLine; rw [List.length_map, sizeLine_eq]; omega))
    show wpAny _ _ (Builtin.SmallTypes.ownedTupleHandOut (.ref z) (.ref h'.objs.size) >>= _) _ _ _
    refine wpAny_bind ?_
    unfold Builtin.SmallTypes.ownedTupleHandOut
    have lt : ∀ c, (∃ o, h'.get? c = some o) → c < h'.objs.size := fun c ⟨o, e⟩ => Heap.lt_size e
    have zl : z < h'.objs.size := lt z ⟨_, m.zo⟩
    have hz₅ : ZObj (h'.push { cls := .type "tuple", data := .seq (ps.map f).toArray }) z TI TO .ellipsis false := Heap.get?_push_of_some _ m.zo
    refine wpAny_bind (wpAny_setField_rec hz₅ (by simp) fun h₆ hz₆ hs₆ => ?_)
    replace hz₆ : ZObj h₆ z TI TO (rawInt h'.objs.size) false := hz₆
    refine wpAny_setField_rec hz₆ (by simp) fun h₇ hz₇ hs₇ => ?_
    replace hz₇ : ZObj h₇ z TI TO (rawInt h'.objs.size) false := hz₇
    have up : ∀ c o, c ≠ z → h'.get? c = some o → h₇.get? c = some o := fun c o c1 e => hs₇.extBut _ _ c1 (hs₆.extBut _ _ c1 (Heap.get?_push_of_some _ e))
    refine wpAny_pure ⟨_, rfl, ?_⟩
    have hT : ZTup h₇ h'.objs.size (ps.map f) := hs₇.extBut _ _ (Nat.ne_of_gt zl) (hs₆.extBut _ _ (Nat.ne_of_gt zl) (Heap.get?_push_size _ rfl))
    have h8 : h₇.objs.size = h'.objs.size + 1 := by rw [hs₇.1, hs₆.1, Heap.size_push]
    show Q (.ref h'.objs.size) _
    rw [m.sz] at hz₇ hT h8 ⊢
    have kk : ZKeep z TO ps s.heap h₇ := m.kp.trans fun c o c1 _ _ e => up c o c1 e
    exact hQ h₇ hz₇ (kk _ _ D.TIz D.TITO (fun p hp => (D.iTI p hp).symm) st.ti) ⟨_, by rw [List.length_map], up _ _ D.TOz hTO'⟩ (fun p hp => (m.did p hp).to fun o e => up _ o (D.iz p hp) e) hT h8 kk
theorem ztpy_item {z TI TO : Addr} {ps : List Zp} {f : Zp → Value} {Q : Option Value → Shared → Prop} (D : ZApart z TI TO ps) (ne : ps ≠ []) (hl : ps.length ≤ 1000) (st : ZAtN s.heap z TI TO ps k)
    (hx : ∀ p ∈ ps, ∃ xs : List Value, p.Of s.heap xs ∧ xs[k]? = some (f p))
    (hQ : ∀ h', ZObj h' z TI TO (rawInt s.heap.objs.size) false → (ZTup h' TI (ps.map fun p => Value.ref p.it)) → (∃ vs : List Value, vs.length = ps.length ∧ ZTup h' TO vs) → (∀ p ∈ ps, p.At h' (k + 1)) → ZTup h' s.heap.objs.size (ps.map f) → h'.objs.size = s.heap.objs.size + 1 → ZKeep z TO ps s.heap h' → Q (some (.ref s.heap.objs.size)) { s with heap := h' }) :
    wpAny (model prog w) A (pyNext (.ref z)) Q E s := by
  have hT : s.TypeIs (.ref z) "zip" := ⟨_, st.z, rfl⟩
  unfold pyNext
  exact wpAny_bind (wpAny_attempt (wpAny_callSpecial?_slot (name := Str.ofString "__next__") hT F.slot_zip_next
    (wpAny_call_entry F.slot_zip_next hT F.entry_zip_next
      (ztnext_item D ne hl st hx fun h' a0 a1 a2 a3 a4 a5 a6 => wpAny_pure (hQ h' a0 a1 a2 a3 a4 a5 a6)) (F.args_zip_next_1 _))))
theorem call_zipt {qs : List (Bool × Addr)} {Q : Value → Shared → Prop} (ne : qs ≠ []) (h12 : qs.length ≤ 12) (hq : ∀ q ∈ qs, ZSrc s.heap q)
    (h : ∀ h', ZAtN h' (s.heap.objs.size + qs.length + 2) (s.heap.objs.size + qs.length) (s.heap.objs.size + qs.length + 1) (zps s.heap.objs.size qs) 0 → (∀ c o, s.heap.get? c = some o → h'.get? c = some o) → Q (.ref (s.heap.objs.size + qs.length + 2)) { s with heap := h' }) :
    wpAny (model prog w) A (call (.type "zip") (qs.map fun q => .ref q.2)) Q E s := by
  have hl : (qs.map fun q => Value.ref q.2).length ≤ 12 := by rw [List.length_map]; exact h12
  have hn : (qs.map fun q => Value.ref q.2) ≠ [] := fun z => ne (List.map_eq_nil_iff.mp z)
  refine callType_new F.called_zip (by decide) (zip_args hl hn).1 (zip_args hl hn).2 (fun obj => init_args obj hl) F.entry_zip_new (meets_zip qs) ⟨hq, by omega, fun h' a b c d e => ⟨⟨_, d, rfl⟩, ?_⟩⟩
  exact h h' ⟨d, b, ⟨_, by rw [List.length_map], c⟩, a⟩ e
end
theorem turn_zt {P : Program} {w : World} {K : PySem.W.Frag} {elts : List Expr} {kk : Nat} {tpos : Pos} {z TI TO : Addr} {n : Nat} {qs : List (Bool × Addr)} (D : ZApart z TI TO (zps n qs)) (ne : qs ≠ []) (hl : qs.length ≤ 12) :
    Turn P w K (.Tuple elts kk tpos) (ItZ K qs) (z :: TI :: TO :: (zps n qs).map (·.it)) z (fun i h => ZAtN h z TI TO (zps n qs) i) where
  mem := by simp
  obj := fun i h st c hc => by
    rcases List.mem_cons.mp hc with e | hc
    · rw [e]; exact ⟨_, st.z, fun v q => nomatch q⟩
    rcases List.mem_cons.mp hc with e | hc
    · rw [e]; exact ⟨_, st.ti, fun v q => nomatch q⟩
    rcases List.mem_cons.mp hc with e | hc
    · obtain ⟨vs, _, ho⟩ := st.to
      rw [e]; exact ⟨_, ho, fun v q => nomatch q⟩
    obtain ⟨p, hp, e⟩ := List.mem_map.mp hc
    obtain ⟨_, _, q⟩ := (st.its p hp).some
    rw [← e]
    rcases q with q | q
    · exact ⟨_, q, fun v q => nomatch q⟩
    · exact q
  keep := fun i h h' st k => by
    obtain ⟨vs, hv, ho⟩ := st.to
    exact ⟨k z (by simp) _ st.z, k TI (by simp) _ st.ti, ⟨vs, hv, k TO (by simp) _ ho⟩, fun p hp => (st.its p hp).to fun o q => k p.it (by simp only [List.mem_cons]; exact .inr (.inr (.inr (List.mem_map.mpr ⟨p, hp, rfl⟩)))) o q⟩
  item := by
    intro X hP hw hK hc i pins s σ H E I hf st hg
    subst hP hw hK
    have ch : ∀ p : Zp, ∃ r : Value × V, p ∈ zps n qs → ∃ (its : List Value) (xs : List V), p.Of s.heap its ∧ its[i]? = some r.1 ∧ SqX X.K H (p.tup, p.src) xs ∧ xs[i]? = some r.2 ∧ RelV r.2 r.1 := fun p => by
      by_cases hp : p ∈ zps n qs
      · obtain ⟨xs, x, hq, hx⟩ := hg _ (zps_it hp).2.2
        obtain ⟨its, rv, ho⟩ := sqx_of (p := p) I hq
        obtain ⟨u, hu, ru⟩ := rv.get hx
        exact ⟨(u, x), fun _ => ⟨its, xs, ho, hu, hq, hx, ru⟩⟩
      · exact ⟨(.none, .non), fun h => absurd h hp⟩
    obtain ⟨g, hgs⟩ := Classical.skolem.mp ch
    have lenz : (zps n qs).length = qs.length := zps_len _ _
    refine ztpy_item (f := fun p => (g p).1) D (fun z => ne (List.length_eq_zero_iff.mp (by rw [← lenz, z]; rfl))) (by omega) st (fun p hp => by
      obtain ⟨its, xs, h1, h2, _⟩ := hgs p hp
      exact ⟨its, h1, h2⟩) fun h' hz' hTI' hTO' hits' hT hsz hk => ?_
    refine ⟨_, rfl, wpAny_letOwnedTupleGo_zip (s := { s with heap := h' }) hz' fun h'' z'' sb => ?_⟩
    have zlt : z < s.heap.objs.size := Heap.lt_size st.z
    have hT2 : ZTup h'' s.heap.objs.size ((zps n qs).map fun p => (g p).1) := (sb.2 _ (Nat.ne_of_gt zlt)).trans hT
    have rv : Vals ((zps n qs).map fun p => (g p).2) ((zps n qs).map fun p => (g p).1) := vals_map fun p hp => by
      obtain ⟨_, _, _, _, _, _, r⟩ := hgs p hp
      exact r
    have new : ObjOk X.prog X.w (upd H s.heap.objs.size (.tup ((zps n qs).map fun p => (g p).2))) h'' s.heap.objs.size (.tup ((zps n qs).map fun p => (g p).2)) :=
      ⟨by show List.length _ ≤ sizeLine; rw [List.length_map, sizeLine_eq]; omega, _, rv, ⟨_, hT2, rfl, _, rfl⟩⟩
    have I1 : Inv X pins σ (upd H s.heap.objs.size (.tup ((zps n qs).map fun p => (g p).2))) { s with heap := h'' } :=
      I.turnedNew (t' := s.toks) (ch := z :: TI :: TO :: (zps n qs).map (·.it)) (fun c o hb q => (sb.2 c (fun e => hb (by simp [e]))).trans (hk c o (fun e => hb (by simp [e])) (fun e => hb (by simp [e])) (fun p hp e => hb (by rw [e]; simp only [List.mem_cons]; exact .inr (.inr (.inr (List.mem_map.mpr ⟨p, hp, rfl⟩))))) q)) hf (Nat.le_refl _) new
    refine ⟨.ref s.heap.objs.size, _, I1, rfl, ⟨_, _, rfl, I.hok.fresh (Nat.le_refl _), rfl, by rw [List.length_map, lenz], fun j q x hj hv xs hxs => ?_⟩, ⟨z'', (sb.2 _ D.TIz).trans hTI', hTO'.imp fun vs h => ⟨h.1, (sb.2 _ D.TOz).trans h.2⟩, fun p hp => (hits' p hp).to fun o e => (sb.2 _ (D.iz p hp)).trans e⟩, fun c hcm => ?_⟩
    · have ep := zps_get n qs j
      rw [hj] at ep
      rw [List.getElem?_map, ep] at hv
      cases hv
      have hp : (⟨q.1, n + j, q.2⟩ : Zp) ∈ zps n qs := List.mem_of_getElem? ep
      obtain ⟨_, ys, _, _, h1, h2, _⟩ := hgs _ hp
      rw [sqx_inj I hxs h1]
      exact h2
    · have hn := (hf c hcm).1
      have hlt : c < s.heap.objs.size := by
        rcases List.mem_cons.mp hcm with e | hc
        · rw [e]; exact Heap.lt_size st.z
        rcases List.mem_cons.mp hc with e | hc
        · rw [e]; exact Heap.lt_size st.ti
        rcases List.mem_cons.mp hc with e | hc
        · obtain ⟨vs, _, ho⟩ := st.to
          rw [e]; exact Heap.lt_size ho
        obtain ⟨p, hp, e⟩ := List.mem_map.mp hc
        obtain ⟨_, _, q⟩ := (st.its p hp).some
        rw [← e]
        rcases q with q | ⟨o, q, _⟩
        · exact Heap.lt_size q
        · exact Heap.lt_size q
      rw [upd_ne (Nat.ne_of_lt hlt)]
      exact hn
  done := by
    intro X hP hw hK hc i pins s σ H E I hf st hg
    subst hP hw hK
    obtain ⟨q, rs, eq, xs, hq, hx⟩ := hg
    subst eq
    obtain ⟨its, rv, ho⟩ := sqx_of (p := ⟨q.1, n, q.2⟩) I hq
    have l1 := rv.length
    exact zpy_end (I.ok.hd hc) D st.zat ho (List.getElem?_eq_none (by omega)) fun h' hk => ⟨rfl, I.turnedL (t' := s.toks) (ch := z :: TI :: TO :: (zps n (q :: rs)).map (·.it)) (fun c o hb q =>
      hk c o (fun e => hb (by simp [e])) (fun e => hb (by simp [e])) (fun p hp e => hb (by rw [e]; simp only [List.mem_cons]; exact .inr (.inr (.inr (List.mem_map.mpr ⟨p, hp, rfl⟩))))) q) hf⟩
  self := fun A i s Q E st h => zpy_iter st.zat h
def iZt (K : PySem.W.Frag) (ta : TA) : TI := fun σ H R => ta σ H fun vs H1 => ∃ qs, vs = qs.map (fun q => V.ref q.2) ∧ qs ≠ [] ∧ qs.length ≤ 12 ∧ (∀ q ∈ qs, ∃ xs, SqX K H1 q xs) ∧ R (ItZ K qs) H1
theorem pi_zt {X : Cx} {e : Expr} {es : List Expr} {ta : TA} {p pos tpos : Pos} {elts : List Expr} {kk : Nat} (hg : Gl X "zip") (hm : X.mg "zip" = none) (ha : PA X (e :: es) ta)
    (hs : starEach (e :: es) X.env = (false, eval e X.env) :: starEach es X.env := by rfl) (hpl : (backTo pos (starEach es X.env)).any (·.1) = false := by rfl) :
    PI X (.Tuple elts kk tpos) (.Call (.Name "zip" p) (e :: es) [] pos) (iZt X.K ta) := by
  refine ⟨fun pins s σ H R I h => ?_⟩
  refine Call_ (ld_blt I hg hm PyProof.Rows.boot_zip (PyProof.Rows.callWith_type1 (thn (ha.run pos pins s σ H _ I h) fun us s1 ⟨vs, H1, I1, r1, q1⟩ => ?_) hs hpl))
  obtain ⟨qs, ev, ne, h12, hq, q⟩ := q1
  subst ev
  obtain rfl := vals_refs' r1
  have hsrc : ∀ q ∈ qs, ZSrc s1.heap q := fun q hm => by
    obtain ⟨xs, hx⟩ := hq q hm
    obtain ⟨its, _, ho⟩ := sqx_of (p := ⟨q.1, 0, q.2⟩) I1 hx
    exact ⟨its, ho⟩
  have hlt : ∀ q ∈ qs, q.2 < s1.heap.objs.size := fun q hm => by
    obtain ⟨xs, hx⟩ := hsrc q hm
    unfold Zp.Of at hx
    split at hx
    · obtain ⟨o, ho, _⟩ := hx
      exact Heap.lt_size ho
    · obtain ⟨o, ho, _⟩ := hx
      exact Heap.lt_size ho
  refine call_zipt ne h12 hsrc fun h' st hk => zpy_iter st.zat ?_
  have I3 : Inv X pins σ H1 { s1 with heap := h' } := I1.kept (t' := s1.toks) hk
  refine ⟨_, _, _, _, H1, rfl, I3, turn_zt (zps_apart hlt) ne h12, st, fun c hcm => ?_, q⟩
  have hle : s1.heap.objs.size ≤ c := by
    rcases List.mem_cons.mp hcm with e | hc
    · rw [e]; exact Nat.le_trans (Nat.le_add_right _ _) (Nat.le_add_right _ _)
    rcases List.mem_cons.mp hc with e | hc
    · rw [e]; exact Nat.le_add_right _ _
    rcases List.mem_cons.mp hc with e | hc
    · rw [e]; exact Nat.le_trans (Nat.le_add_right _ _) (Nat.le_add_right _ _)
    obtain ⟨p, hp, e⟩ := List.mem_map.mp hc
    rw [← e]
    exact (zps_it hp).1
  exact I1.fpOk hle (I1.hok.fresh hle)
theorem uds_dats {K : PySem.W.Frag} {pt : Pt} {G : Hp} : ∀ {vs : List V} {ds : List PyData}, UDs K pt G vs (ds.map .d) → Dats K G vs ds
  | _, [], .nil => .nil
  | _, _ :: _, .cons h t => .cons h (uds_dats t)
section
variable {X : Cx} {B : Bs} {a : Expr} {es : List Expr} {ma : MA} {fa : Cst} {pos p tpos : Pos} {elts : List Expr} {kk : Nat}
/-- zip of some sequences of one length -/
theorem xi_zt (ha : XA X B (a :: es) ma fa) (hm : X.mg "zip" = none) (hg : Gl X "zip" := by rfl) (hs : starEach (a :: es) X.env = (false, eval a X.env) :: starEach es X.env := by rfl)
    (hpl : (backTo pos (starEach es X.env)).any (·.1) = false := by rfl) : XI X B (.Tuple elts kk tpos) (.Call (.Name "zip" p) (a :: es) [] pos) (fun e Q => ma e fun us => ∃ ds n rss, us = ds.map .d ∧ RowsB n ds rss ∧ Q (colsD rss n)) fa :=
  ⟨fun e P P' hh q => ha.mono e _ _ (fun us ⟨ds, n, rss, q1, q2, q3⟩ => ⟨ds, n, rss, q1, q2, hh _ q3⟩) q, piW (pi_zt hg hm ha.pa hs hpl) fun σ H R ⟨e, G, bq, r, hh⟩ => ha.go r hh fun us q vs H1 G1 r1 x1 d1 => by
    obtain ⟨ds, n, rss, q1, q2, q3⟩ := q
    subst q1
    have sg : ∀ H', Ext B.pt H1 H' → Same G1 H' := fun H' x c o g => x c o (r1.sub c o g) fun hp => by rw [r1.gpot c hp] at g; cases g
    obtain ⟨qs, e2, e3, hq⟩ := rows_split (uds_dats d1) q2.eq
    subst e2
    refine ⟨qs, rfl, fun z => ?_, by rw [e3]; exact q2.le, fun q hm => ?_, q3 _ H1 G1 r1 x1 (wk_zs (vs := []) (fun H' x => sg H' x) q2 e3 hq)⟩
    · rw [z] at e3
      exact q2.ne (List.length_eq_zero_iff.mp e3.symm)
    · obtain ⟨j, hj⟩ := List.getElem?_of_mem hm
      have hlt : j < qs.length := by
        rcases Nat.lt_or_ge j qs.length with z | z
        · exact z
        · rw [List.getElem?_eq_none z] at hj; cases hj
      obtain ⟨ws, _, sx⟩ := hq j q _ hj (List.getElem?_eq_getElem (by omega))
      exact ⟨ws, sx H1 r1.sub⟩⟩
theorem xf_zt (ha : XA X B (a :: es) ma fa) (hm : X.mg "zip" = none) (hg : Gl X "zip" := by rfl) (hs : starEach (a :: es) X.env = (false, eval a X.env) :: starEach es X.env := by rfl)
    (hpl : (backTo pos (starEach es X.env)).any (·.1) = false := by rfl) : XF X B (.Tuple elts kk tpos) (.Call (.Name "zip" p) (a :: es) [] pos) (fun e Q => ma e fun us => ∃ ds n rss, us = ds.map .d ∧ RowsB n ds rss ∧ Q (colsD rss n)) fa :=
  ⟨fun e P P' hh q => ha.mono e _ _ (fun us ⟨ds, n, rss, q1, q2, q3⟩ => ⟨ds, n, rss, q1, q2, hh _ q3⟩) q, piW (pi_zt hg hm ha.pa hs hpl) fun σ H R ⟨e, G, bq, r, hh⟩ => ha.go r hh fun us q vs H1 G1 r1 x1 d1 => by
    obtain ⟨ds, n, rss, q1, q2, q3⟩ := q
    subst q1
    obtain ⟨qs, e2, e3, hq⟩ := rows_split (uds_dats d1) q2.eq
    subst e2
    refine ⟨qs, rfl, fun z => ?_, by rw [e3]; exact q2.le, fun q hm => ?_, q3 _ H1 G1 r1 x1 (wk_zs (vs := []) (fun H' x => x) q2 e3 hq)⟩
    · rw [z] at e3
      exact q2.ne (List.length_eq_zero_iff.mp e3.symm)
    · obtain ⟨j, hj⟩ := List.getElem?_of_mem hm
      have hlt : j < qs.length := by
        rcases Nat.lt_or_ge j qs.length with z | z
        · exact z
        · rw [List.getElem?_eq_none z] at hj; cases hj
      obtain ⟨ws, _, sx⟩ := hq j q _ hj (List.getElem?_eq_getElem (by omega))
      exact ⟨ws, sx H1 r1.sub⟩⟩
end
end Fd

set_option Elab.async false
set_option linter.all false
set_option maxRecDepth 100000
set_option maxHeartbeats 4000000
namespace K18
open PySem PySem.Spec PyProof.Rows L2 Fd
def topS (i : Nat) : Stmt := PySem.Challenge.pw_foralldeciders_k18_whole_distances.main.body.getD i (.Pass ⟨0, 0, 0, 0⟩)
structure Glb (mg : Str → Option Value) : Prop where
  g_abs : mg "abs" = none
  g_int : mg "int" = none
  g_isinstance : mg "isinstance" = none
  g_len : mg "len" = none
  g_range : mg "range" = none
  g_repr : mg "repr" = none
  g_sorted : mg "sorted" = none
  g_sum : mg "sum" = none
  g_tuple : mg "tuple" = none
  g_zip : mg "zip" = none
abbrev sDivisor : Stmt := topS 1
abbrev nDivisor : List Str := ["numbers", "found", "number", "rest"]
theorem scDivisor : FnScope nDivisor ["numbers"] (defScope sDivisor) := ⟨rfl, rfl, rfl, by decide +kernel, rfl, by decide +kernel, by decide +kernel⟩
abbrev sFraction : Stmt := topS 2
abbrev nFraction : List Str := ["above", "below", "common"]
theorem scFraction : FnScope nFraction ["above", "below"] (defScope sFraction) := ⟨rfl, rfl, rfl, by decide +kernel, rfl, by decide +kernel, by decide +kernel⟩
abbrev sDistances : Stmt := topS 7
abbrev nDistances : List Str := ["one", "other", "found", "row", "further", "parts", "item", "more"]
theorem scDistances : FnScope nDistances ["one", "other"] (defScope sDistances) := ⟨rfl, rfl, rfl, by decide +kernel, rfl, by decide +kernel, by decide +kernel⟩
abbrev sLPot : Stmt := topS 9
abbrev nLPot : List Str := ["script", "cells", "stirred", "cell"]
theorem scLPot : FnScope nLPot ["script"] (defScope sLPot) := ⟨rfl, rfl, rfl, by decide +kernel, rfl, by decide +kernel, by decide +kernel⟩
abbrev sLDraw : Stmt := topS 10
abbrev nLDraw : List Str := ["pot", "many", "great", "cell", "turn", "mixed"]
theorem scLDraw : FnScope nLDraw ["pot", "many"] (defScope sLDraw) := ⟨rfl, rfl, rfl, by decide +kernel, rfl, by decide +kernel, by decide +kernel⟩
abbrev sLPick : Stmt := topS 11
abbrev nLPick : List Str := ["pot", "row"]
theorem scLPick : FnScope nLPick ["pot", "row"] (defScope sLPick) := ⟨rfl, rfl, rfl, by decide +kernel, rfl, by decide +kernel, by decide +kernel⟩
abbrev sLCommon : Stmt := topS 12
abbrev nLCommon : List Str := ["one", "other"]
theorem scLCommon : FnScope nLCommon ["one", "other"] (defScope sLCommon) := ⟨rfl, rfl, rfl, by decide +kernel, rfl, by decide +kernel, by decide +kernel⟩
abbrev sLFraction : Stmt := topS 13
abbrev nLFraction : List Str := ["above", "below", "own"]
theorem scLFraction : FnScope nLFraction ["above", "below"] (defScope sLFraction) := ⟨rfl, rfl, rfl, by decide +kernel, rfl, by decide +kernel, by decide +kernel⟩
abbrev sLLowest : Stmt := topS 14
abbrev nLLowest : List Str := ["whole", "rows", "own", "row", "item"]
theorem scLLowest : FnScope nLLowest ["whole", "rows"] (defScope sLLowest) := ⟨rfl, rfl, rfl, by decide +kernel, rfl, by decide +kernel, by decide +kernel⟩
abbrev sLShares : Stmt := topS 15
abbrev nLShares : List Str := ["pot", "whole", "many", "cuts", "k", "here", "there"]
theorem scLShares : FnScope nLShares ["pot", "whole", "many"] (defScope sLShares) := ⟨rfl, rfl, rfl, by decide +kernel, rfl, by decide +kernel, by decide +kernel⟩
abbrev sLLook : Stmt := topS 16
abbrev nLLook : List Str := ["pot", "states", "signs", "whole", "rows", "state"]
theorem scLLook : FnScope nLLook ["pot", "states", "signs"] (defScope sLLook) := ⟨rfl, rfl, rfl, by decide +kernel, rfl, by decide +kernel, by decide +kernel⟩
abbrev sLLess : Stmt := topS 17
abbrev nLLess : List Str := ["one", "other"]
theorem scLLess : FnScope nLLess ["one", "other"] (defScope sLLess) := ⟨rfl, rfl, rfl, by decide +kernel, rfl, by decide +kernel, by decide +kernel⟩
abbrev sLGaps : Stmt := topS 18
abbrev nLGaps : List Str := ["one", "other", "found", "row", "more", "total", "item", "own"]
theorem scLGaps : FnScope nLGaps ["one", "other"] (defScope sLGaps) := ⟨rfl, rfl, rfl, by decide +kernel, rfl, by decide +kernel, by decide +kernel⟩
abbrev sLAsked : Stmt := topS 19
abbrev nLAsked : List Str := ["one", "other", "is_named", "error"]
theorem scLAsked : FnScope nLAsked ["one", "other", "is_named"] (defScope sLAsked) := ⟨rfl, rfl, rfl, by decide +kernel, rfl, by decide +kernel, by decide +kernel⟩
abbrev sLaw : Stmt := topS 20
abbrev nLaw : List Str := ["script", "pot", "turn", "states", "signs", "one", "other", "third", "whole", "rows", "times", "kept", "due", "told", "is_same", "far", "near", "more", "wide", "is_named", "k", "row", "item"]
theorem scLaw : FnScope nLaw ["script"] (defScope sLaw) := ⟨rfl, rfl, rfl, by decide +kernel, rfl, by decide +kernel, by decide +kernel⟩
abbrev aUnfit : Arguments := { posonlyargs := [], args := [{ arg := "self", annotation := none, pos := ⟨17, 17, 17, 21⟩ }], vararg := none, kwonlyargs := [], kw_defaults := [], kwarg := none, defaults := [] }
abbrev bUnfit : List Stmt := [(.Expr (Fe.superE ⟨18, 8, 18, 13⟩ ⟨18, 8, 18, 15⟩ ⟨18, 8, 18, 24⟩ ⟨18, 8, 18, 26⟩ []) ⟨18, 8, 18, 26⟩)]
abbrev zUnfit : List (Str × NameKind) := [(PySem.Str.ofString "self", .local), (PySem.Str.ofString "__class__", .free), (PySem.Str.ofString "super", .globalImplicit)]
theorem pmk_Unfit {X : Cx} {C fI : Addr} {k : Nat} {p pos : Pos} (T : Fe.ExcK X.prog X.K X.mg C fI aUnfit bUnfit zUnfit) (hr : Room (k + 1) X.A) (hg : Gl X "Unfit") (hm : X.mg "Unfit" = some (.ref C)) : PMk X (.Call (.Name "Unfit" p) [] [] pos) (Fe.tMk0 C) :=
  Fe.pmk_s0 T hr hg hm (fun _ _ _ _ _ _ _ _ _ _ _ => .of_eq rfl) rfl rfl rfl rfl (by decide) (fun _ => rfl) (by decide)
/-! base -/
/-! promises -/
def intsD (ns : List Int) : List PyData := ns.map .int
/-- the pot and a list or a tuple -/
def OneArg : List U → List PyData → Prop
  | [.pot, .d (.list ds)], es => ds = es
  | [.pot, .d (.tuple ds)], es => ds = es
  | _, _ => False
theorem oneArg_out {us : List U} {es : List PyData} (h : OneArg us es) : us = [.pot, .d (.list es)] ∨ us = [.pot, .d (.tuple es)] := by
  unfold OneArg at h
  split at h
  · subst h; exact .inl rfl
  · subst h; exact .inr rfl
  · exact h.elim
def phGcd : Ph := fun us Q => ∃ (d : PyData) (ns : List Int), us = [.d d] ∧ (d = .list (ns.map .int) ∨ d = .tuple (ns.map .int)) ∧ Q (.d (.int (gcdL ns)))
theorem phGcd_len {us : List U} {Q : U → Prop} (h : phGcd us Q) : us.length = 1 := by
  obtain ⟨d, ns, rfl, _⟩ := h; rfl
theorem phGcd_mono : PhM phGcd := fun us Q Q' h ⟨d, ns, a, b, q⟩ => ⟨d, ns, a, b, h _ q⟩
abbrev phDivisor := phGcd
theorem phDivisor_len {us : List U} {Q : U → Prop} (h : phGcd us Q) : us.length = 1 := phGcd_len h
theorem phDivisor_mono : PhM phGcd := phGcd_mono
/-- a row of ints from 0 on with a sum -/
structure IsParts (whole : Int) (many : Nat) (ns : List Int) : Prop where
  len : ns.length = many
  nn : ∀ n ∈ ns, 0 ≤ n ∧ n ≤ whole
  sum : ns.sum = whole
/-- a look as data -/
def rowsD (rows : List (List Int)) : List PyData := rows.map fun r => .tuple (r.map .int)
def lookD (whole : Int) (rows : List (List Int)) : PyData := .tuple [.int whole, .tuple (rowsD rows)]
structure IsLook (whole : Int) (states signs : Nat) (rows : List (List Int)) : Prop where
  len : rows.length = states
  each : ∀ r ∈ rows, IsParts whole signs r
/-- rows and columns exchanged -/
def turn (rows : List (List Int)) (n : Nat) : List (List Int) := (List.range n).map fun j => rows.map fun r => r.getD j 0
/-- rows of one length with small entries -/
structure Tab (states signs : Nat) (top : Int) (rows : List (List Int)) : Prop where
  len : rows.length = states
  row : ∀ r ∈ rows, r.length = signs
  ent : ∀ r ∈ rows, ∀ x ∈ r, 0 ≤ x ∧ x ≤ top
theorem Tab.le {st n : Nat} {a b : Int} {rows : List (List Int)} (h : Tab st n a rows) (hb : a ≤ b) : Tab st n b rows := ⟨h.len, h.row, fun r hr x hx => by have := h.ent r hr x hx; omega⟩
/-- a measure of columns that may be split -/
structure Splits (t : Int) (φ : List Int → Int) : Prop where
  zero : ∀ c : List Int, (∀ x ∈ c, x = 0) → φ c = 0
  cut : ∀ (c : List Int) (a : Int), (∀ x ∈ c, 0 ≤ x) → 0 ≤ a → a ≤ t → φ (c.map (· * a)) + φ (c.map (· * (t - a))) = φ c * t
def phiS (φ : List Int → Int) (cs : List (List Int)) : Int := (cs.map φ).sum
theorem tab_of {whole : Int} {st sg : Nat} {rows : List (List Int)} (h : IsLook whole st sg rows) : Tab st sg whole rows :=
  ⟨h.len, fun r hr => (h.each r hr).len, fun r hr x hx => by have := (h.each r hr).nn x hx; omega⟩
theorem turn_len (rows : List (List Int)) (n : Nat) : (turn rows n).length = n := by
  unfold turn
  rw [List.length_map, List.length_range]
theorem turn_row {rows : List (List Int)} {n : Nat} {r : List Int} (h : r ∈ turn rows n) : r.length = rows.length := by
  unfold turn at h
  obtain ⟨j, _, rfl⟩ := List.mem_map.mp h
  rw [List.length_map]
theorem turn_ent {rows : List (List Int)} {n : Nat} {r : List Int} {x : Int} (hn : ∀ r ∈ rows, r.length = n) (h : r ∈ turn rows n) (hx : x ∈ r) : ∃ r' ∈ rows, x ∈ r' := by
  unfold turn at h
  obtain ⟨j, hj, rfl⟩ := List.mem_map.mp h
  obtain ⟨r', hr, rfl⟩ := List.mem_map.mp hx
  exact ⟨r', hr, Fd.getD_mem (by rw [hn r' hr]; exact List.mem_range.mp hj)⟩
theorem turn_pos {rows : List (List Int)} {n : Nat} {r : List Int} {x : Int} (hn : ∀ r ∈ rows, r.length = n) (hr : r ∈ rows) (hx : x ∈ r) : ∃ c ∈ turn rows n, x ∈ c := by
  obtain ⟨j, hj, rfl⟩ := List.getElem_of_mem hx
  refine ⟨rows.map fun r => r.getD j 0, List.mem_map.mpr ⟨j, List.mem_range.mpr (by rw [← hn r hr]; exact hj), rfl⟩, List.mem_map.mpr ⟨r, hr, ?_⟩⟩
  rw [List.getD_eq_getElem?_getD, List.getElem?_eq_getElem hj, Option.getD_some]
/-- a column that may stand in a look -/
structure Col (states : Nat) (top : Int) (c : List Int) : Prop where
  len : c.length = states
  ent : ∀ x ∈ c, 0 ≤ x ∧ x ≤ top
def Posi (c : List Int) : Prop := ∃ x ∈ c, 0 < x
theorem col_mul {states : Nat} {top m k : Int} {c : List Int} (h : Col states top c) (k0 : 0 ≤ k) (k1 : k ≤ m) (t0 : 0 ≤ top) : Col states (top * m) (c.map (· * k)) := by
  refine ⟨by rw [List.length_map]; exact h.len, fun x hx => ?_⟩
  obtain ⟨y, hy, rfl⟩ := List.mem_map.mp hx
  have := h.ent y hy
  exact ⟨Int.mul_nonneg this.1 k0, Int.mul_le_mul this.2 k1 k0 t0⟩
theorem posi_mul {c : List Int} {k : Int} (h : Posi c) (k0 : 0 < k) : Posi (c.map (· * k)) := by
  obtain ⟨x, hx, x0⟩ := h
  exact ⟨x * k, List.mem_map.mpr ⟨x, hx, rfl⟩, Int.mul_pos x0 k0⟩
theorem rowsD_app (as bs : List (List Int)) : rowsD (as ++ bs) = rowsD as ++ rowsD bs := by
  unfold rowsD
  rw [List.map_append]
theorem rowsD_len (as : List (List Int)) : (rowsD as).length = as.length := by
  unfold rowsD
  rw [List.length_map]
theorem turn_tab {states : Nat} {top : Int} {cs : List (List Int)} (h : ∀ c ∈ cs, Col states top c) : Tab states cs.length top (turn cs states) :=
  ⟨turn_len cs states, fun r hr => turn_row hr, fun r hr x hx => by
    obtain ⟨c, hc, hx⟩ := turn_ent (fun c hc => (h c hc).len) hr hx
    exact (h c hc).ent x hx⟩
theorem sh_ints {ns : List Int} {b : Int} (hb : b < 10 ^ 40) (h : ∀ n ∈ ns, 0 ≤ n ∧ n ≤ b) : Sh (ns.length * 43 + 3) 1 (.tuple (ns.map .int)) := by
  have := sh_tup (s := 41) (k := 0) (ds := ns.map .int) fun d hd => by
    obtain ⟨n, hn, rfl⟩ := List.mem_map.mp hd
    have := h n hn
    exact sh_int (by omega) (by omega)
  rw [List.length_map] at this
  exact this
theorem sh_look {states n : Nat} {rows : List (List Int)} {w : Int} (tab : Tab states n 3000 rows) (w0 : 0 ≤ w) (w1 : w ≤ 3000) (h1 : states ≤ 10) (h2 : n ≤ 30) : Sh 30000 3 (lookD w rows) := by
  have h3 : Sh (rows.length * (1293 + 2) + 3) 2 (.tuple (rowsD rows)) := by
    have := sh_tup (s := 1293) (k := 1) (ds := rowsD rows) fun d hd => by
      obtain ⟨r, hr, rfl⟩ := List.mem_map.mp hd
      refine (sh_ints (b := 3000) (by decide) fun x hx => tab.ent r hr x hx).le ?_ (Nat.le_refl 1)
      have := tab.row r hr
      omega
    rw [rowsD_len] at this
    exact this
  have l := tab.len
  have h4 : Sh 12953 2 (.tuple (rowsD rows)) := h3.le (by omega) (Nat.le_refl 2)
  have h5 := sh_tup (s := 12953) (k := 2) (ds := [.int w, .tuple (rowsD rows)]) fun d hd => by
    rcases List.mem_cons.mp hd with z | hd
    · subst z
      exact (sh_int (by omega) (by omega)).le (by decide) (by decide)
    · rw [List.mem_singleton] at hd
      subst hd
      exact h4
  exact h5.le (by show 2 * (12953 + 2) + 3 ≤ 30000; decide) (Nat.le_refl 3)
theorem sh_two {s k : Nat} {a b : PyData} (h1 : Sh s k a) (h2 : Sh s k b) : Sh (2 * (s + 2) + 3) (k + 1) (.list [a, b]) := sh_list (ds := [a, b]) fun d hd => by
  rcases List.mem_cons.mp hd with z | hd
  · rw [z]; exact h1
  · rw [List.mem_singleton] at hd
    rw [hd]; exact h2
/-- the sum of a place over columns -/
def colSum (cs : List (List Int)) (s : Nat) : Int := (cs.map fun c => c.getD s 0).sum
theorem colSum_nil (s : Nat) : colSum [] s = 0 := rfl
theorem colSum_cons (c : List Int) (cs : List (List Int)) (s : Nat) : colSum (c :: cs) s = c.getD s 0 + colSum cs s := by
  unfold colSum
  rw [List.map_cons, List.sum_cons]
theorem colSum_app (as bs : List (List Int)) (s : Nat) : colSum (as ++ bs) s = colSum as s + colSum bs s := by
  unfold colSum
  rw [List.map_append, List.sum_append]
theorem colSum_perm {as bs : List (List Int)} (h : as.Perm bs) (s : Nat) : colSum as s = colSum bs s := perm_sum (h.map _)
theorem getD_map_mul (c : List Int) (k : Int) (s : Nat) : (c.map (· * k)).getD s 0 = c.getD s 0 * k := by
  rw [List.getD_eq_getElem?_getD, List.getD_eq_getElem?_getD, List.getElem?_map]
  cases c[s]? with
  | none => simp
  | some x => rfl
theorem range_getD (r : List Int) : (List.range r.length).map (fun j => r.getD j 0) = r := by
  refine List.ext_getElem (by rw [List.length_map, List.length_range]) fun i h1 h2 => ?_
  rw [List.getElem_map, List.getElem_range, List.getD_eq_getElem?_getD, List.getElem?_eq_getElem h2, Option.getD_some]
/-- the columns of a look sum to its whole -/
theorem turn_colSum {whole : Int} {st n : Nat} {rows : List (List Int)} (lk : IsLook whole st n rows) {s : Nat} (hs : s < st) : colSum (turn rows n) s = whole := by
  have hl : s < rows.length := by rw [lk.len]; exact hs
  have p := lk.each rows[s] (List.getElem_mem hl)
  have e : (turn rows n).map (fun c => c.getD s 0) = rows[s] := by
    unfold turn
    rw [List.map_map]
    have e2 : ((fun c : List Int => c.getD s 0) ∘ fun j => rows.map fun r => r.getD j 0) = fun j => rows[s].getD j 0 := funext fun j => by
      show (rows.map fun r => r.getD j 0).getD s 0 = rows[s].getD j 0
      rw [List.getD_eq_getElem?_getD, List.getElem?_map, List.getElem?_eq_getElem hl]
      rfl
    rw [e2, ← p.len, range_getD]
  unfold colSum
  rw [e, p.sum]
/-- columns with sums make a look -/
theorem look_turn {states : Nat} {top : Int} {cs : List (List Int)} (h : ∀ c ∈ cs, Col states top c) (hs : ∀ s, s < states → colSum cs s = top) : IsLook top states cs.length (turn cs states) := by
  refine ⟨turn_len cs states, fun r hr => ⟨turn_row hr, fun x hx => (turn_tab h).ent r hr x hx, ?_⟩⟩
  unfold turn at hr
  obtain ⟨j, hj, rfl⟩ := List.mem_map.mp hr
  exact hs j (List.mem_range.mp hj)
theorem zero_col {states : Nat} {top : Int} {c : List Int} (h : Col states top c) (np : ¬ Posi c) {s : Nat} (hs : s < states) : c.getD s 0 = 0 := by
  have hm := Fd.getD_mem (r := c) (i := s) (by rw [h.len]; exact hs)
  have := h.ent _ hm
  rcases Int.lt_or_eq_of_le this.1 with z | z
  · exact absurd ⟨_, hm, z⟩ np
  · exact z.symm
theorem phiS_nil (φ : List Int → Int) : phiS φ [] = 0 := rfl
theorem phiS_cons (φ : List Int → Int) (c : List Int) (cs : List (List Int)) : phiS φ (c :: cs) = φ c + phiS φ cs := by
  unfold phiS
  rw [List.map_cons, List.sum_cons]
theorem phiS_app (φ : List Int → Int) (as bs : List (List Int)) : phiS φ (as ++ bs) = phiS φ as + phiS φ bs := by
  unfold phiS
  rw [List.map_append, List.sum_append]
theorem phiS_perm (φ : List Int → Int) {as bs : List (List Int)} (h : as.Perm bs) : phiS φ as = phiS φ bs := perm_sum (h.map _)
theorem zero_all {states : Nat} {top : Int} {c : List Int} (h : Col states top c) (np : ¬ Posi c) : ∀ x ∈ c, x = 0 := fun x hx => by
  have := h.ent x hx
  rcases Int.lt_or_eq_of_le this.1 with z | z
  · exact absurd ⟨_, hx, z⟩ np
  · exact z.symm
theorem turn_turn {rows : List (List Int)} {n : Nat} (h : ∀ r ∈ rows, r.length = n) : turn (turn rows n) rows.length = rows := by
  unfold turn
  refine List.ext_getElem (by rw [List.length_map, List.length_range]) fun i h1 h2 => ?_
  rw [List.getElem_map, List.getElem_range, List.map_map]
  have e : ((fun r : List Int => r.getD i 0) ∘ fun j => rows.map fun r => r.getD j 0) = fun j => rows[i].getD j 0 := funext fun j => by
    show (rows.map fun r => r.getD j 0).getD i 0 = rows[i].getD j 0
    rw [List.getD_eq_getElem?_getD, List.getElem?_map, List.getElem?_eq_getElem h2]
    rfl
  rw [e, ← h rows[i] (List.getElem_mem h2), range_getD]

theorem rep_ints (n : Nat) (z : Int) : (List.replicate n [PyData.int z]).flatten = (List.replicate n z).map PyData.int := by
  induction n with
  | zero => rfl
  | succ n ih => rw [List.replicate_succ, List.replicate_succ, List.flatten_cons, List.map_cons, ih]; rfl
theorem sum_rep0 (n : Nat) : (List.replicate n (0 : Int)).sum = 0 := by
  induction n with
  | zero => rfl
  | succ n ih => rw [List.replicate_succ, List.sum_cons, ih]; rfl
theorem sum_nonneg : ∀ {r : List Int}, (∀ y ∈ r, 0 ≤ y) → 0 ≤ r.sum
  | [], _ => Int.le_refl 0
  | x :: r, h => by
    rw [List.sum_cons]
    have h1 := h x List.mem_cons_self
    have h2 := sum_nonneg (r := r) fun y hy => h y (List.mem_cons_of_mem _ hy)
    omega
theorem mem_le_sum : ∀ {r : List Int} {y : Int}, (∀ y ∈ r, 0 ≤ y) → y ∈ r → y ≤ r.sum
  | x :: r, y, h, hy => by
    rw [List.sum_cons]
    have h1 := h x List.mem_cons_self
    have h2 := sum_nonneg (r := r) fun y hy => h y (List.mem_cons_of_mem _ hy)
    rcases List.mem_cons.mp hy with z | z
    · omega
    · have := mem_le_sum (fun y hy => h y (List.mem_cons_of_mem _ hy)) z
      omega
theorem sum_setI : ∀ {r : List Int} {j : Nat} {v : Int} (hj : j < r.length), (r.set j v).sum = r.sum - r[j] + v
  | x :: r, 0, v, _ => by
    show (v :: r).sum = _
    rw [List.sum_cons, List.sum_cons]
    show v + r.sum = x + r.sum - x + v
    omega
  | x :: r, j + 1, v, h => by
    have hj : j < r.length := by simpa using h
    show (x :: r.set j v).sum = _
    rw [List.sum_cons, List.sum_cons, sum_setI hj]
    show x + (r.sum - r[j] + v) = x + r.sum - r[j] + v
    omega
theorem ix_nat {n j : Nat} (h : j < n) : ixN n (j : Int) = some j := by
  unfold ixN
  rw [if_pos (by omega), if_pos (by omega)]
  rfl
theorem rows_of {P : List Int → Prop} : ∀ {es : List PyData}, (∀ d ∈ es, ∃ r : List Int, d = .tuple (r.map .int) ∧ P r) → ∃ rows, es = rowsD rows ∧ ∀ r ∈ rows, P r
  | [], _ => ⟨[], rfl, fun _ h => (nomatch h)⟩
  | d :: es, h => by
    obtain ⟨r, e, hr⟩ := h d List.mem_cons_self
    obtain ⟨rows, e2, h2⟩ := rows_of (es := es) fun d hd => h d (List.mem_cons_of_mem _ hd)
    refine ⟨r :: rows, by rw [e, e2]; rfl, fun x hx => ?_⟩
    rcases List.mem_cons.mp hx with z | z
    · rw [z]; exact hr
    · exact h2 x z
theorem lcGo_ff {α : Type} {mg : MG} {mt : MT} {me : M} {e : En} {Q : List PyData → Prop} (g f : α → PyData) (p : α → Bool) : ∀ (ns : List α) (acc : List PyData), (∀ n ∈ ns, ∀ R : Option PyData → Prop, R (if p n = true then some (f n) else none) → mg (.d (g n)) e fun e1 => mt e1 fun b => if b = true then me e1 fun u => match u with
      | .d x => R (some x)
      | _ => False
    else R none) → Q (acc ++ (ns.filter p).map f) → lcGo mg mt me e Q (ns.map g) acc
  | [], acc, _, q => by rw [List.filter_nil, List.map_nil, List.append_nil] at q; exact q
  | n :: ns, acc, hs, q => by
    refine hs n List.mem_cons_self (fun o => lcGo mg mt me e Q (ns.map g) (match o with | some x => acc ++ [x] | none => acc)) ?_
    by_cases h : p n = true
    · rw [if_pos h]
      refine lcGo_ff g f p ns _ (fun m hm => hs m (List.mem_cons_of_mem _ hm)) ?_
      rw [List.filter_cons_of_pos h, List.map_cons] at q
      rw [List.append_assoc]
      exact q
    · rw [if_neg h]
      refine lcGo_ff g f p ns _ (fun m hm => hs m (List.mem_cons_of_mem _ hm)) ?_
      rw [List.filter_cons_of_neg h] at q
      exact q
theorem filter_isE {α : Type} (p : α → Bool) : ∀ l : List α, (l.filter p).isEmpty = !l.any p
  | [] => rfl
  | x :: l => by
    rw [List.filter_cons, List.any_cons]
    cases h : p x with
    | true => rfl
    | false =>
      rw [if_neg (by decide), Bool.false_or]
      exact filter_isE p l
theorem lcGo_filt {mg : MG} {mt : MT} {me : M} {e : En} {Q : List PyData → Prop} (p : PyData → Bool) (ns : List PyData) (hs : ∀ n ∈ ns, ∀ R : Option PyData → Prop, R (if p n = true then some n else none) → mg (.d n) e fun e1 => mt e1 fun b => if b = true then me e1 fun u => match u with
      | .d x => R (some x)
      | _ => False
    else R none) (q : Q (ns.filter p)) : lcGo mg mt me e Q ns [] := by
  have := lcGo_ff (mg := mg) (mt := mt) (me := me) (e := e) (Q := Q) (fun d : PyData => d) (fun d => d) p ns [] hs (by rw [List.map_id', List.nil_append]; exact q)
  rw [List.map_id'] at this
  exact this
/-! values with leaves up to 10 ^ 130 -/
mutual
theorem lf_short2 {b : Int} (hb : b ≤ 10 ^ 130) : ∀ {d : PyData}, lf b d = true → d.leavesShort 132 = true
  | .none, _ => by simp only [PyData.leavesShort]
  | .bool _, _ => by simp only [PyData.leavesShort]
  | .int i, h => by
    simp only [lf, Bool.and_eq_true, decide_eq_true_eq] at h
    simp only [PyData.leavesShort, PyData.shown]
    refine decide_eq_true ?_
    rw [PySem.ofString_length]
    exact int_text_length_le10 (a := i) (k := 131) (by decide) (by omega)
  | .str _, h => by simpa only [PyData.leavesShort, lf] using h
  | .list xs, h => by simp only [lf] at h; simp only [PyData.leavesShort]; exact lfAll_short2 hb h
  | .tuple xs, h => by simp only [lf] at h; simp only [PyData.leavesShort]; exact lfAll_short2 hb h
  | .dict _, h => by simp [lf] at h
theorem lfAll_short2 {b : Int} (hb : b ≤ 10 ^ 130) : ∀ {xs : List PyData}, lfAll b xs = true → PyData.leavesShortAll 132 xs = true
  | [], _ => by simp only [PyData.leavesShortAll]
  | x :: xs, h => by
    simp only [lfAll, Bool.and_eq_true] at h
    simp only [PyData.leavesShortAll, Bool.and_eq_true]
    exact ⟨lf_short2 hb h.1, lfAll_short2 hb h.2⟩
end
mutual
theorem lf_able2 {b : Int} (hb : b ≤ 10 ^ 130) : ∀ {d : PyData}, lf b d = true → d.showable = true
  | .none, _ => by simp only [PyData.showable]
  | .bool _, _ => by simp only [PyData.showable]
  | .int i, h => by
    simp only [lf, Bool.and_eq_true, decide_eq_true_eq] at h
    have l := log2_lt (n := i.natAbs) (k := 440) (Nat.lt_of_le_of_lt (by omega) (show 10 ^ 130 < 2 ^ 440 by decide +kernel)) (by decide)
    simp only [PyData.showable, decide_eq_true_eq]
    omega
  | .str _, h => by simp only [PyData.showable]
  | .list xs, h => by simp only [lf] at h; simp only [PyData.showable]; exact lfAll_able2 hb h
  | .tuple xs, h => by simp only [lf] at h; simp only [PyData.showable]; exact lfAll_able2 hb h
  | .dict _, h => by simp [lf] at h
theorem lfAll_able2 {b : Int} (hb : b ≤ 10 ^ 130) : ∀ {xs : List PyData}, lfAll b xs = true → PyData.showableAll xs = true
  | [], _ => by simp only [PyData.showableAll]
  | x :: xs, h => by
    simp only [lfAll, Bool.and_eq_true] at h
    simp only [PyData.showableAll, Bool.and_eq_true]
    exact ⟨lf_able2 hb h.1, lfAll_able2 hb h.2⟩
end
theorem tm_shows2 {b : Int} {w k : Nat} {d : PyData} (h : Tm b w k d) (hb : b ≤ 10 ^ 130) (hw : w ≤ 6000) (hk : k ≤ 60) : ShowsX d := by
  refine ⟨lf_able2 hb h.lf, Nat.le_trans h.dp hk, ?_⟩
  have s := PyData.shown_le 132 (by decide) d (lf_short2 hb h.lf)
  have := h.wt
  omega
theorem cut_m1 {ds : List PyData} (h : 1 ≤ ds.length) : Fd.cutD ds none (some (-1)) = ds.take (ds.length - 1) := by
  unfold Fd.cutD
  have e1 : HT.sIx ds.length 0 none = 0 := rfl
  have e2 : HT.sIx ds.length ds.length (some (-1)) = ds.length - 1 := by
    show (if (-1 : Int) < 0 then ((-1 : Int) + (ds.length : Int)).toNat else min (-1 : Int).toNat ds.length) = _
    rw [if_pos (by decide)]
    omega
  rw [e1, e2, List.drop_zero, Nat.sub_zero]
theorem atI_m1 {ds : List PyData} {d : PyData} (h : ds[ds.length - 1]? = some d) : atI ds (-1) = some d := by
  have hl : 1 ≤ ds.length := by
    rcases Nat.eq_zero_or_pos ds.length with z | z
    · rw [List.length_eq_zero_iff.mp z] at h
      cases h
    · exact z
  unfold atI
  have e : ixN ds.length (-1) = some (ds.length - 1) := by
    unfold ixN
    rw [if_neg (by decide), if_pos (by omega)]
    congr 1
    omega
  rw [e]
  exact h

/-! the judge of looks, in plain terms -/
def isNum (lo hi : Int) : PyData → Bool
  | .int i => decide (lo ≤ i) && decide (i ≤ hi)
  | _ => false
def lenT : PyData → Nat
  | .tuple xs => xs.length
  | _ => 0
def phNum : Ph := fun us Q => ∃ (d : PyData) (lo hi : Int), us = [.d d, .d (.int lo), .d (.int hi)] ∧ Q (.d (.bool (isNum lo hi d)))
theorem phNum_len {us : List U} {Q : U → Prop} (h : phNum us Q) : us.length = 3 := by
  obtain ⟨a, b, c, rfl, _⟩ := h; rfl
theorem phNum_mono : PhM phNum := fun us Q Q' h ⟨x, y, z, a, q⟩ => ⟨x, y, z, a, h _ q⟩
abbrev phIsWhole := phNum
theorem phIsWhole_len {us : List U} {Q : U → Prop} (h : phNum us Q) : us.length = 3 := phNum_len h
theorem phIsWhole_mono : PhM phNum := phNum_mono
abbrev phLIsNumber := phNum
theorem phLIsNumber_len {us : List U} {Q : U → Prop} (h : phNum us Q) : us.length = 3 := phNum_len h
theorem phLIsNumber_mono : PhM phNum := phNum_mono
def phLIsSize : Ph := fun us Q => ∃ (d : PyData) (m : Int), us = [.d d, .d (.int m)] ∧ Q (.d (.bool (isTup d && decide ((lenT d : Int) = m))))
theorem phLIsSize_len {us : List U} {Q : U → Prop} (h : phLIsSize us Q) : us.length = 2 := by
  obtain ⟨a, b, rfl, _⟩ := h; rfl
theorem phLIsSize_mono : PhM phLIsSize := fun us Q Q' h ⟨x, y, a, q⟩ => ⟨x, y, a, h _ q⟩
def findBad (p : PyData → Bool) : Nat → List PyData → Option Nat
  | _, [] => none
  | i, d :: ds => if p d = true then findBad p (i + 1) ds else some i
def errAt (s : Str) (i : Nat) : PyData := .tuple [.str s, .int (i : Int)]
/-- what a look tells -/
def phStates : Ph := fun us Q => ∃ (w : Int) (rows : List (List Int)), us = [.d (lookD w rows)] ∧ Q (.d (.int rows.length))
theorem phStates_len {us : List U} {Q : U → Prop} (h : phStates us Q) : us.length = 1 := by
  obtain ⟨a, b, rfl, _⟩ := h; rfl
theorem phStates_mono : PhM phStates := fun us Q Q' h ⟨x, y, a, q⟩ => ⟨x, y, a, h _ q⟩
abbrev phStatesOf := phStates
theorem phStatesOf_len {us : List U} {Q : U → Prop} (h : phStates us Q) : us.length = 1 := phStates_len h
theorem phStatesOf_mono : PhM phStates := phStates_mono
def phSignsOf : Ph := fun us Q => ∃ (w : Int) (st n : Nat) (rows : List (List Int)), us = [.d (lookD w rows)] ∧ Tab st n 3000 rows ∧ 1 ≤ st ∧ Q (.d (.int (n : Int)))
theorem phSignsOf_len {us : List U} {Q : U → Prop} (h : phSignsOf us Q) : us.length = 1 := by
  obtain ⟨a, b, c, d, rfl, _⟩ := h; rfl
theorem phSignsOf_mono : PhM phSignsOf := fun us Q Q' h ⟨x, y, z, u, a, b, c, q⟩ => ⟨x, y, z, u, a, b, c, h _ q⟩
def phColumns : Ph := fun us Q => ∃ (w : Int) (st n : Nat) (rows : List (List Int)), us = [.d (lookD w rows)] ∧ Tab st n 3000 rows ∧ 1 ≤ st ∧ st ≤ 10 ∧ n ≤ 30 ∧ Q (.d (.tuple (rowsD (turn rows n))))
theorem phColumns_len {us : List U} {Q : U → Prop} (h : phColumns us Q) : us.length = 1 := by
  obtain ⟨a, b, c, d, rfl, _⟩ := h; rfl
theorem phColumns_mono : PhM phColumns := fun us Q Q' h ⟨x, y, z, u, a, b, c, d, e, q⟩ => ⟨x, y, z, u, a, b, c, d, e, h _ q⟩
/-- something put otherwise -/
def phLBent (n : Nat) : Ph := fun us Q => ∃ (d : PyData) (w : Nat) (bb : Int), us = [.pot, .d d] ∧ 10 ^ 30 ≤ bb ∧ bb ≤ 10 ^ 30 + 5 ∧ d.depth < n ∧ n ≤ 50 ∧ w ≤ 900 ∧ Tm bb w 50 d ∧ ∀ d', Tm (bb + 1) (3 * w + 150) (d.depth + 1) d' → Q (.d d')
theorem phLBent_len {n : Nat} {us : List U} {Q : U → Prop} (h : phLBent n us Q) : us.length = 2 := by
  obtain ⟨a, b, c, rfl, _⟩ := h; rfl
theorem phLBent_no (us : List U) (Q : U → Prop) : ¬ phLBent 0 us Q := fun ⟨d, w, bb, _, _, _, h, _⟩ => absurd h (Nat.not_lt_zero _)
theorem phLBent_mono {n : Nat} : PhM (phLBent n) := fun us Q Q' h ⟨x, y, z, a, b1, b2, b, c, d, e, q⟩ => ⟨x, y, z, a, b1, b2, b, c, d, e, fun d' h' => h _ (q d' h')⟩
theorem sh_word (s : Str) (h : (reprText s).length ≤ 100) : Sh 100 0 (.str s) := ⟨by simp only [PyData.plain], by simp only [PyData.showable], by simp only [PyData.depth]; exact Nat.le_refl 0, by simp only [PyData.shown]; exact h⟩
theorem findBad_le {p : PyData → Bool} : ∀ {ds : List PyData} {i j : Nat}, findBad p i ds = some j → j < i + ds.length
  | [], _, _, h => nomatch h
  | d :: ds, i, j, h => by
    unfold findBad at h
    split at h
    · have := findBad_le h
      rw [List.length_cons]
      omega
    · cases h
      rw [List.length_cons]
      omega
theorem sh_err {s : Str} {i : Nat} (h : (reprText s).length ≤ 100) (hi : i ≤ 100) : Sh 1000 1 (errAt s i) := by
  refine (sh_tup (s := 100) (k := 0) (ds := [.str s, .int (i : Int)]) fun d hd => ?_).le (by show 2 * (100 + 2) + 3 ≤ 1000; decide) (Nat.le_refl 1)
  rcases List.mem_cons.mp hd with z | hd
  · rw [z]; exact sh_word s h
  · rw [List.mem_singleton] at hd
    rw [hd]
    exact (sh_int (by omega) (by omega)).le (by decide) (Nat.le_refl 0)
/-- the items behind their places, from i on -/
def enumF : Nat → List PyData → List PyData
  | _, [] => []
  | i, d :: ds => .tuple [.int (i : Int), d] :: enumF (i + 1) ds
theorem enumF_zip : ∀ (ds : List PyData) (n : Nat), zipD ((List.range' n ds.length).map fun i : Nat => PyData.int (0 + (i : Int))) ds = enumF n ds
  | [], n => rfl
  | d :: ds, n => by
    rw [List.length_cons, List.range'_succ, List.map_cons]
    have ih := enumF_zip ds (n + 1)
    unfold zipD at ih ⊢
    rw [List.zip_cons_cons, List.map_cons, ih, Int.zero_add]
    rfl
theorem enumD_eq (ds : List PyData) : enumD ds = enumF 0 ds := by
  unfold enumD
  rw [rngD_nat, List.range_eq_range', enumF_zip]
theorem forL_enum {mg : MG} {mb : MS} {k : Kt} (I : Nat → List PyData → En → Prop) (h0 : ∀ i e, I i [] e → k.nx e)
    (hs : ∀ i d ds e (R : En → Prop), I i (d :: ds) e → (∀ e', I (i + 1) ds e' → R e') → mg (.d (.tuple [.int (i : Int), d])) e fun e1 => mb e1 { nx := R, rt := k.rt, bk := k.nx, ct := R }) : ∀ ds i e, I i ds e → forL mg mb (enumF i ds) e k
  | [], i, e, h => h0 i e h
  | d :: ds, i, e, h => hs i d ds e _ h fun e' h' => forL_enum I h0 hs ds (i + 1) e' h'
theorem isNum_out {lo hi : Int} {x : PyData} (h : isNum lo hi x = true) : ∃ w, x = .int w ∧ lo ≤ w ∧ w ≤ hi := by
  cases x with
  | int i =>
    simp only [isNum, Bool.and_eq_true, decide_eq_true_eq] at h
    exact ⟨i, rfl, h⟩
  | _ => cases h
theorem findBad_step {p : PyData → Bool} {i : Nat} {d : PyData} {ds : List PyData} (h : p d = true) : findBad p i (d :: ds) = findBad p (i + 1) ds := by
  show (if p d = true then findBad p (i + 1) ds else some i) = _
  rw [if_pos h]
theorem findBad_here {p : PyData → Bool} {i : Nat} {d : PyData} {ds : List PyData} (h : p d = false) : findBad p i (d :: ds) = some i := by
  show (if p d = true then findBad p (i + 1) ds else some i) = _
  rw [if_neg (by rw [h]; decide)]
theorem tm_row {b : Int} {r : List Int} {n : Nat} (hb : 60 ≤ b) (hn : r.length ≤ n) (h : ∀ x ∈ r, 0 ≤ x ∧ x ≤ 60) : Tm b (7 * n) 1 (.tuple (r.map .int)) := by
  have t := (tms_of (b := b) (w := 6) (k := 0) (g := PyData.int) (ls := r) fun x hx => by
    have := h x hx
    exact tm_int (by omega) (by omega) (Nat.lt_of_le_of_lt (show x.natAbs ≤ 60 by omega) (by decide)) (by decide)).tup
  exact t.le (Int.le_refl _) (by omega) (Nat.le_refl _)
theorem tm_rows {b : Int} {rows : List (List Int)} {n : Nat} (hb : 60 ≤ b) (h : ∀ r ∈ rows, r.length ≤ n ∧ ∀ x ∈ r, 0 ≤ x ∧ x ≤ 60) : Tm b (rows.length * (7 * n + 1)) 2 (.tuple (rowsD rows)) :=
  (tms_of (b := b) (w := 7 * n) (k := 1) (g := fun r : List Int => PyData.tuple (r.map .int)) (ls := rows) fun r hr => tm_row hb (h r hr).1 (h r hr).2).tup
theorem tm_look {b : Int} {st n : Nat} {w : Int} {rows : List (List Int)} (hb : 60 ≤ b) (h1 : st ≤ 4) (h2 : n ≤ 6) (w0 : 0 ≤ w) (w1 : w ≤ 60) (tab : Tab st n w rows) : Tm b 200 3 (lookD w rows) := by
  have t := tm_rows (b := b) (rows := rows) (n := 6) hb fun r hr => ⟨by rw [tab.row r hr]; exact h2, fun x hx => by have := tab.ent r hr x hx; omega⟩
  have tl := tab.len
  have t2 : Tm b 172 2 (.tuple (rowsD rows)) := t.le (Int.le_refl _) (by omega) (Nat.le_refl _)
  have o := ((Tms.one ((tm_int (b := b) (i := w) (n := 6) (by omega) (by omega) (Nat.lt_of_le_of_lt (show w.natAbs ≤ 60 by omega) (by decide)) (by decide)).le (Int.le_refl _) (Nat.le_refl _) (show 0 ≤ 2 by decide))).app (Tms.one t2)).tup
  exact o.le (Int.le_refl _) (by omega) (Nat.le_refl _)
theorem tm_turn {b : Int} {st n : Nat} {w : Int} {rows : List (List Int)} (hb : 60 ≤ b) (h1 : st ≤ 4) (h2 : n ≤ 6) (w1 : w ≤ 60) (tab : Tab st n w rows) : Tm b 200 2 (.tuple (rowsD (turn rows n))) := by
  have tl := tab.len
  have t := tm_rows (b := b) (rows := turn rows n) (n := 4) hb fun r hr => ⟨by rw [turn_row hr]; omega, fun x hx => by
    obtain ⟨r', hr', hx'⟩ := turn_ent tab.row hr hx
    have := tab.ent r' hr' x hx'
    omega⟩
  rw [turn_len] at t
  exact t.le (Int.le_refl _) (by omega) (Nat.le_refl _)

def okMany (n : Option Int) (k : Nat) : Bool := match n with
  | none => true
  | some m => decide (m = (k : Int))
def rowGood (n : Option Int) : PyData → Bool
  | .tuple xs => decide (1 ≤ xs.length) && decide (xs.length ≤ 6) && (okMany n xs.length && xs.all (isNum 0 60))
  | _ => false
def manyD : Option Int → PyData
  | none => .none
  | some m => .int m
def phIsRow : Ph := fun us Q => ∃ (d : PyData) (n : Option Int), us = [.d d, .d (manyD n)] ∧ Q (.d (.bool (rowGood n d)))
theorem phIsRow_len {us : List U} {Q : U → Prop} (h : phIsRow us Q) : us.length = 2 := by
  obtain ⟨a, b, rfl, _⟩ := h; rfl
theorem phIsRow_mono : PhM phIsRow := fun us Q Q' h ⟨x, y, a, q⟩ => ⟨x, y, a, h _ q⟩
def sumsTo (w : Int) : PyData → Bool
  | .tuple xs => match intsOf xs with
    | some ns => decide (ns.sum = w)
    | none => false
  | _ => false
def sumErr (w : Int) (i : Nat) (rows : List PyData) : PyData := match findBad (sumsTo w) i rows with
  | some i => errAt "sum" i
  | none => .none
def rowsErr (w : Int) (rows : List PyData) : PyData := match findBad (rowGood (some (lenT (rows.headD .none) : Int))) 0 rows with
  | some i => errAt "row" i
  | none => sumErr w 0 rows
def partsErr (x y : PyData) : PyData := match x, y with
  | .int w, .tuple rows => if 1 ≤ w ∧ w ≤ 60 ∧ 1 ≤ rows.length ∧ rows.length ≤ 4 then rowsErr w rows else .str "form"
  | _, _ => .str "form"
def lookErr : PyData → PyData
  | .tuple [x, y] => partsErr x y
  | _ => .str "form"
def phErr : Ph := fun us Q => ∃ d : PyData, us = [.d d] ∧ Q (.d (lookErr d))
theorem phErr_len {us : List U} {Q : U → Prop} (h : phErr us Q) : us.length = 1 := by
  obtain ⟨a, rfl, _⟩ := h; rfl
theorem phErr_mono : PhM phErr := fun us Q Q' h ⟨x, a, q⟩ => ⟨x, a, h _ q⟩
abbrev phLookError := phErr
theorem phLookError_len {us : List U} {Q : U → Prop} (h : phErr us Q) : us.length = 1 := phErr_len h
theorem phLookError_mono : PhM phErr := phErr_mono
abbrev phLLookFault := phErr
theorem phLLookFault_len {us : List U} {Q : U → Prop} (h : phErr us Q) : us.length = 1 := phErr_len h
theorem phLLookFault_mono : PhM phErr := phErr_mono
def phLIsJudged : Ph := fun us Q => ∃ d : PyData, us = [.d d] ∧ ShowsX d ∧ Q (.d (.bool true))
theorem phLIsJudged_len {us : List U} {Q : U → Prop} (h : phLIsJudged us Q) : us.length = 1 := by
  obtain ⟨a, rfl, _⟩ := h; rfl
theorem phLIsJudged_mono : PhM phLIsJudged := fun us Q Q' h ⟨x, a, b, q⟩ => ⟨x, a, b, h _ q⟩
theorem okMany_eq (n : Option Int) (k : Nat) : ([PyData.none, PyData.int (k : Int)].any fun z => PyData.eqv z (manyD n)) = okMany n k := by
  cases n with
  | none => rfl
  | some m =>
    simp only [List.any_cons, List.any_nil, manyD, okMany, Bool.or_false, eqv_int]
    have e : PyData.eqv .none (.int m) = false := by simp [PyData.eqv]
    rw [e, Bool.false_or]
    exact decide_eq_decide.mpr ⟨fun h => h.symm, fun h => h.symm⟩
theorem inb_many (n : Option Int) (k : Int) : InB (manyD n) [.none, .int k] := by
  refine ⟨?_, ?_, ?_⟩
  · cases n <;> simp only [manyD, PyData.plain]
  · simp only [PyData.plainAll, PyData.plain, Bool.and_self]
  · simp only [PyData.depthAll, PyData.depth]
    omega
theorem sh_lookErr0 (d : PyData) : Sh 1000 1 (lookErr d) := by
  have form : Sh 1000 1 (.str "form") := (sh_word "form" (by decide +kernel)).le (by decide) (by decide)
  have non : Sh 1000 1 .none := ⟨by simp only [PyData.plain], by simp only [PyData.showable], by simp only [PyData.depth]; omega, by simp only [PyData.shown]; decide +kernel⟩
  unfold lookErr
  split
  · unfold partsErr
    split
    · split
      · rename_i rows hw
        unfold rowsErr
        split
        · rename_i i hi
          have := findBad_le hi
          exact sh_err (by decide +kernel) (by omega)
        · unfold sumErr
          split
          · rename_i i hi
            have := findBad_le hi
            exact sh_err (by decide +kernel) (by omega)
          · exact non
      · exact form
    · exact form
  · exact form
theorem sh_lookErr (d : PyData) : ShowsX (lookErr d) := (sh_lookErr0 d).showsX (by decide) (by decide)
theorem partsErr_no {x y : PyData} (h : isNum 1 60 x = false) : partsErr x y = .str "form" := by
  unfold partsErr
  split
  · rw [if_neg fun hh => ?_]
    simp only [isNum, Bool.and_eq_false_iff, decide_eq_false_iff_not] at h
    omega
  · rfl
theorem rowGood_self (d : PyData) : rowGood (some (lenT d : Int)) d = rowGood none d := by
  cases d with
  | tuple xs => simp only [rowGood, lenT, okMany, decide_true]
  | _ => rfl
theorem rowGood_out {n : Option Int} {d : PyData} (h : rowGood n d = true) : ∃ xs : List PyData, d = .tuple xs ∧ 1 ≤ xs.length ∧ xs.length ≤ 6 ∧ okMany n xs.length = true ∧ ∀ x ∈ xs, isNum 0 60 x = true := by
  cases d with
  | tuple xs =>
    simp only [rowGood, Bool.and_eq_true, decide_eq_true_eq, List.all_eq_true] at h
    exact ⟨xs, rfl, h.1.1, h.1.2, h.2.1, h.2.2⟩
  | _ => cases h
theorem row_ints {n : Option Int} {d : PyData} (h : rowGood n d = true) : ∃ ns : List Int, d = .tuple (ns.map .int) := by
  obtain ⟨xs, rfl, _, _, _, hx⟩ := rowGood_out h
  obtain ⟨ns, e, _⟩ := ints_of (P := fun _ => True) fun x hm => by
    obtain ⟨w, e, _⟩ := isNum_out (hx x hm)
    exact ⟨w, e, trivial⟩
  exact ⟨ns, by rw [e]⟩
/-- the test of rows -/
abbrev rowP (rows : List PyData) : PyData → Bool := rowGood (some (lenT (rows.headD .none) : Int))
theorem rowsErr_bad {w : Int} {rows : List PyData} {i : Nat} (h : findBad (rowP rows) 0 rows = some i) : rowsErr w rows = errAt "row" i := by
  unfold rowsErr
  rw [h]
theorem rowsErr_good {w : Int} {rows : List PyData} (h : findBad (rowP rows) 0 rows = none) : rowsErr w rows = sumErr w 0 rows := by
  unfold rowsErr
  rw [h]
theorem sumErr_bad {w : Int} {rows : List PyData} {i : Nat} (h : findBad (sumsTo w) 0 rows = some i) : sumErr w 0 rows = errAt "sum" i := by
  unfold sumErr
  rw [h]
theorem sumErr_good {w : Int} {rows : List PyData} (h : findBad (sumsTo w) 0 rows = none) : sumErr w 0 rows = .none := by
  unfold sumErr
  rw [h]
theorem sumsTo_ints (w : Int) (ns : List Int) : sumsTo w (.tuple (ns.map .int)) = decide (ns.sum = w) := by
  show (match intsOf (ns.map .int) with
    | some ns => decide (ns.sum = w)
    | none => false) = _
  rw [intsOf_map]


/-! promises -/
/-- the pot as it is made -/
def MkPot (d : PyData) : Prop := ∃ (gs : List Int) (m : Int), d = .dict [(.str "great", .list (gs.map .int)), (.str "stirred", .int m), (.str "turn", .int 0)] ∧ gs.length ≤ 63 ∧ (∀ g ∈ gs, 0 ≤ g) ∧ 0 ≤ m ∧ m < 4294967291
theorem dat_dict {K : PySem.W.Frag} {G : Hp} : ∀ {v : V} {d : PyData}, Dat K G v d → ∀ {ps : List (PyData × PyData)}, d = .dict ps → ∃ a kvs ds, v = .ref a ∧ G a = some (.dK kvs) ∧ Dats K G (kvs.map (·.2)) ds ∧ ps = (kvs.map fun p => kD p.1).zip ds
  | _, _, .dct s t, _, e => by
    injection e with e
    exact ⟨_, _, _, rfl, s, t, e.symm⟩
  | _, _, .non, _, e => by cases e
  | _, _, .bl _, _, e => by cases e
  | _, _, .int _, _, e => by cases e
  | _, _, .str _, _, e => by cases e
  | _, _, .lst _ _, _, e => by cases e
  | _, _, .tup _ _, _, e => by cases e
theorem is_pot (K : PySem.W.Frag) (G H : Hp) (v : V) (d : PyData) (b : Nat) (hb : b ≤ 2 ^ 1000) (h : MkPot d) (r : Dat K G v d) (sub : Same G H) : ∃ ap ag, v = .ref ap ∧ (∃ o, G ap = some o ∧ NoFrz o) ∧ (∃ o, G ag = some o ∧ NoFrz o) ∧ PotJ ap ag b H := by
  obtain ⟨gs, m, e, h1, h2, h3, h4⟩ := h
  subst e
  obtain ⟨a, kvs, ds, rfl, s, t, hD⟩ := dat_dict r rfl
  have hl := t.len
  rw [List.length_map] at hl
  have hz := congrArg List.length hD
  rw [List.length_zip, List.length_map, ← hl, Nat.min_self] at hz
  match kvs, ds, hz, hl with
  | [(k1, v1), (k2, v2), (k3, v3)], [d1, d2, d3], _, _ =>
    simp only [List.map_cons, List.map_nil, List.zip_cons_cons, List.zip_nil_right, List.cons.injEq, Prod.mk.injEq, and_true] at hD
    obtain ⟨⟨a1, a2⟩, ⟨a3, a4⟩, a5, a6⟩ := hD
    subst a2 a4 a6
    cases k1 with
    | inl i => cases a1
    | inr x1 =>
      cases k2 with
      | inl i => cases a3
      | inr x2 =>
        cases k3 with
        | inl i => cases a5
        | inr x3 =>
          injection a1 with a1
          injection a3 with a3
          injection a5 with a5
          subst a1 a3 a5
          cases t with
          | cons t1 t2 =>
            cases t2 with
            | cons t2 t3 =>
              cases t3 with
              | cons t3 t4 =>
                cases t2
                cases t3
                cases t1 with
                | @lst b2 ys _ s2 u =>
                  have e := u.ints
                  subst e
                  refine ⟨a, b2, rfl, ⟨_, s, trivial⟩, ⟨_, s2, trivial⟩, fun z => ?_, gs, m, 0, sub _ _ s, sub _ _ s2, h1, h2, h3, h4, Int.le_refl 0, by omega⟩
                  subst z
                  rw [s] at s2
                  cases s2
def phLPot : Ph := fun us Q => ∃ ns : List Int, us = [.scr (ns.map .int)] ∧ ns.length ≤ 63 ∧ ∀ d, MkPot d → Q (.d d)
theorem phLPot_len {us : List U} {Q : U → Prop} (h : phLPot us Q) : us.length = 1 := by
  obtain ⟨ns, rfl, _⟩ := h; rfl
theorem phLPot_mono : PhM phLPot := fun us Q Q' h ⟨ns, a, b, q⟩ => ⟨ns, a, b, fun d hd => h _ (q d hd)⟩
def phLDraw : Ph := fun us Q => ∃ many : Int, us = [.pot, .d (.int many)] ∧ 1 ≤ many ∧ many < 2 ^ 63 ∧ ∀ k, 0 ≤ k → k < many → Q (.d (.int k))
theorem phLDraw_len {us : List U} {Q : U → Prop} (h : phLDraw us Q) : us.length = 2 := by
  obtain ⟨ns, rfl, _⟩ := h; rfl
theorem phLDraw_mono : PhM phLDraw := fun us Q Q' h ⟨ns, a, b, c, q⟩ => ⟨ns, a, b, c, fun k h1 h2 => h _ (q k h1 h2)⟩
def phLPick : Ph := fun us Q => ∃ ds : List PyData, OneArg us ds ∧ ds ≠ [] ∧ ds.length ≤ 1000 ∧ ∀ d ∈ ds, Q (.d d)
theorem phLPick_len {us : List U} {Q : U → Prop} (h : phLPick us Q) : us.length = 2 := by
  obtain ⟨ns, h, _⟩ := h
  rcases oneArg_out h with rfl | rfl <;> rfl
theorem phLPick_mono : PhM phLPick := fun us Q Q' h ⟨ns, a, b, c, q⟩ => ⟨ns, a, b, c, fun d hd => h _ (q d hd)⟩
theorem dgG {H : Hp} {ap ag : Addr} {m t : Int} (e : H ap = some (.dK (potKv ag m t))) : DGet H ap (.str "great") (some (.ref ag)) := DGet.k (k := .inr "great") e
theorem dgM {H : Hp} {ap ag : Addr} {m t : Int} (e : H ap = some (.dK (potKv ag m t))) : DGet H ap (.str "stirred") (some (.int m)) := DGet.k (k := .inr "stirred") e
theorem dgT {H : Hp} {ap ag : Addr} {m t : Int} (e : H ap = some (.dK (potKv ag m t))) : DGet H ap (.str "turn") (some (.int t)) := DGet.k (k := .inr "turn") e
theorem dpM {H : Hp} {ap ag : Addr} {m m' t : Int} (e : H ap = some (.dK (potKv ag m t))) : DPut H ap (.str "stirred") (.int m') (upd H ap (.dK (potKv ag m' t))) := DPut.k (k := .inr "stirred") e (by show 3 < sizeLine; decide)
theorem dpT {H : Hp} {ap ag : Addr} {m t' t : Int} (e : H ap = some (.dK (potKv ag m t))) : DPut H ap (.str "turn") (.int t') (upd H ap (.dK (potKv ag m t'))) := DPut.k (k := .inr "turn") e (by show 3 < sizeLine; decide)
theorem mulw {i : Int} (h0 : 0 ≤ i) (h1 : i ≤ 2 ^ 1000) : CMulW i i := by
  have h : i.natAbs.log2 < 1001 := by
    by_cases z : i.natAbs = 0
    · rw [z]; decide
    · exact (Nat.log2_lt z).mpr (by
        have : i.natAbs ≤ 2 ^ 1000 := by omega
        exact Nat.lt_of_le_of_lt this (Nat.pow_lt_pow_right (by decide) (by decide)))
  unfold CMulW
  omega
def phLMixed : Ph := fun us Q => ∃ ds : List PyData, us = [.pot, .d (.list ds)] ∧ ds.length ≤ 1000 ∧ ∀ es : List PyData, es.Perm ds → Q (.d (.list es))
theorem phLMixed_len {us : List U} {Q : U → Prop} (h : phLMixed us Q) : us.length = 2 := by
  obtain ⟨a, rfl, _⟩ := h; rfl
theorem phLMixed_mono : PhM phLMixed := fun us Q Q' h ⟨x, a, b, q⟩ => ⟨x, a, b, fun es he => h _ (q es he)⟩
def phLShares : Ph := fun us Q => ∃ whole many : Int, us = [.pot, .d (.int whole), .d (.int many)] ∧ 0 ≤ whole ∧ whole ≤ 1000000 ∧ 1 ≤ many ∧ many ≤ 1000 ∧ ∀ ns, IsParts whole many.toNat ns → Q (.d (.tuple (ns.map .int)))
theorem phLShares_len {us : List U} {Q : U → Prop} (h : phLShares us Q) : us.length = 3 := by
  obtain ⟨a, b, rfl, _⟩ := h; rfl
theorem phLShares_mono : PhM phLShares := fun us Q Q' h ⟨x, y, a, b, c, d, e, q⟩ => ⟨x, y, a, b, c, d, e, fun es he => h _ (q es he)⟩
def phLGarbling : Ph := fun us Q => ∃ signs outs : Int, us = [.pot, .d (.int signs), .d (.int outs)] ∧ 0 ≤ signs ∧ signs ≤ 1000 ∧ 1 ≤ outs ∧ outs ≤ 1000 ∧ ∀ (w : Int) (rows : List (List Int)), 1 ≤ w → w ≤ 60 → IsLook w signs.toNat outs.toNat rows → Q (.d (lookD w rows))
theorem phLGarbling_len {us : List U} {Q : U → Prop} (h : phLGarbling us Q) : us.length = 3 := by
  obtain ⟨a, b, rfl, _⟩ := h; rfl
theorem phLGarbling_mono : PhM phLGarbling := fun us Q Q' h ⟨x, y, a, b, c, d, e, q⟩ => ⟨x, y, a, b, c, d, e, fun w rows h1 h2 h3 => h _ (q w rows h1 h2 h3)⟩
/-- a whole, not below least -/
def isWh (least : Int) : PyData → Bool
  | .int i => decide (least ≤ i)
  | _ => false
theorem isWh_out {least : Int} {x : PyData} (h : isWh least x = true) : ∃ w, x = .int w ∧ least ≤ w := by
  unfold isWh at h
  split at h
  · exact ⟨_, rfl, of_decide_eq_true h⟩
  · cases h
def phLIsWhole : Ph := fun us Q => ∃ (d : PyData) (least : Int), us = [.d d, .d (.int least)] ∧ Q (.d (.bool (isWh least d)))
theorem phLIsWhole_len {us : List U} {Q : U → Prop} (h : phLIsWhole us Q) : us.length = 2 := by
  obtain ⟨a, b, rfl, _⟩ := h; rfl
theorem phLIsWhole_mono : PhM phLIsWhole := fun us Q Q' h ⟨x, y, a, q⟩ => ⟨x, y, a, h _ q⟩
/-- so many wholes -/
def whRow (many : Int) : PyData → Bool
  | .tuple xs => decide ((xs.length : Int) = many) && xs.all (isWh 0)
  | _ => false
def phLAreWholes : Ph := fun us Q => ∃ (d : PyData) (many : Int), us = [.d d, .d (.int many)] ∧ many ≤ 1000000 ∧ Q (.d (.bool (whRow many d)))
theorem phLAreWholes_len {us : List U} {Q : U → Prop} (h : phLAreWholes us Q) : us.length = 2 := by
  obtain ⟨a, b, rfl, _⟩ := h; rfl
theorem phLAreWholes_mono : PhM phLAreWholes := fun us Q Q' h ⟨x, y, a, b, q⟩ => ⟨x, y, a, b, h _ q⟩
def isIntD : PyData → Bool
  | .int _ => true
  | _ => false
def phIsInteger : Ph := fun us Q => ∃ d : PyData, us = [.d d] ∧ Q (.d (.bool (isIntD d)))
theorem phIsInteger_len {us : List U} {Q : U → Prop} (h : phIsInteger us Q) : us.length = 1 := by
  obtain ⟨a, rfl, _⟩ := h; rfl
theorem phIsInteger_mono : PhM phIsInteger := fun us Q Q' h ⟨x, a, q⟩ => ⟨x, a, h _ q⟩
/-- a part: a tuple of one to six wholes -/
def isPartD : PyData → Bool
  | .tuple xs => decide (1 ≤ xs.length) && decide (xs.length ≤ 6) && xs.all (isWh 0)
  | _ => false
def phIsPart : Ph := fun us Q => ∃ d : PyData, us = [.d d] ∧ Q (.d (.bool (isPartD d)))
theorem phIsPart_len {us : List U} {Q : U → Prop} (h : phIsPart us Q) : us.length = 1 := by
  obtain ⟨a, rfl, _⟩ := h; rfl
theorem phIsPart_mono : PhM phIsPart := fun us Q Q' h ⟨x, a, q⟩ => ⟨x, a, h _ q⟩
/-- the test of a garbling's rows -/
def gRow (outs : Nat) (d : PyData) : Bool := isPartD d && decide (lenT d = outs)
def gRows (w : Int) (rows : List PyData) : PyData := match findBad (gRow (lenT (rows.headD .none))) 0 rows with
  | some i => errAt "row" i
  | none => sumErr w 0 rows
def gErr (signs : Int) : PyData → PyData
  | .tuple [.int w, .tuple rows] => if 1 ≤ w ∧ (rows.length : Int) = signs then gRows w rows else .str "form"
  | _ => .str "form"
def phGarblingError : Ph := fun us Q => ∃ (signs : Int) (d : PyData), us = [.d (.int signs), .d d] ∧ Q (.d (gErr signs d))
theorem phGarblingError_len {us : List U} {Q : U → Prop} (h : phGarblingError us Q) : us.length = 2 := by
  obtain ⟨a, b, rfl, _⟩ := h; rfl
theorem phGarblingError_mono : PhM phGarblingError := fun us Q Q' h ⟨x, y, a, q⟩ => ⟨x, y, a, h _ q⟩
def phLGarblingDue : Ph := fun us Q => ∃ (signs : Int) (d : PyData), us = [.d (.int signs), .d d] ∧ 1 ≤ signs ∧ Q (.d (gErr signs d))
theorem phLGarblingDue_len {us : List U} {Q : U → Prop} (h : phLGarblingDue us Q) : us.length = 2 := by
  obtain ⟨a, b, rfl, _⟩ := h; rfl
theorem phLGarblingDue_mono : PhM phLGarblingDue := fun us Q Q' h ⟨x, y, a, b, q⟩ => ⟨x, y, a, b, h _ q⟩
def putD (xs : List PyData) (i : Nat) (d : PyData) : List PyData := xs.take i ++ d :: xs.drop (i + 1)
def phLPut : Ph := fun us Q => ∃ (xs : List PyData) (i : Nat) (d : PyData), us = [.d (.tuple xs), .d (.int (i : Int)), .d d] ∧ i < xs.length ∧ xs.length ≤ 1000 ∧ Q (.d (.tuple (putD xs i d)))
theorem phLPut_len {us : List U} {Q : U → Prop} (h : phLPut us Q) : us.length = 3 := by
  obtain ⟨a, b, c, rfl, _⟩ := h; rfl
theorem phLPut_mono : PhM phLPut := fun us Q Q' h ⟨x, y, z, a, b, c, q⟩ => ⟨x, y, z, a, b, c, h _ q⟩
theorem isPartD_out {d : PyData} (h : isPartD d = true) : ∃ xs : List PyData, d = .tuple xs ∧ 1 ≤ xs.length ∧ xs.length ≤ 6 ∧ ∀ x ∈ xs, isWh 0 x = true := by
  cases d with
  | tuple xs =>
    simp only [isPartD, Bool.and_eq_true, decide_eq_true_eq, List.all_eq_true] at h
    exact ⟨xs, rfl, h.1.1, h.1.2, h.2⟩
  | _ => cases h
theorem part_ints {d : PyData} (h : isPartD d = true) : ∃ ns : List Int, d = .tuple (ns.map .int) := by
  obtain ⟨xs, rfl, _, _, hx⟩ := isPartD_out h
  obtain ⟨ns, e, _⟩ := ints_of (P := fun _ => True) fun x hm => by
    obtain ⟨w, e, _⟩ := isWh_out (hx x hm)
    exact ⟨w, e, trivial⟩
  exact ⟨ns, by rw [e]⟩
theorem gRow_part {n : Nat} {d : PyData} (h : gRow n d = true) : isPartD d = true := by
  unfold gRow at h
  rw [Bool.and_eq_true] at h
  exact h.1
theorem gRow_wh (n : Nat) (d : PyData) : gRow n d = (decide (1 ≤ (n : Int)) && decide ((n : Int) ≤ 6) && whRow (n : Int) d) := by
  unfold gRow
  cases d with
  | tuple xs =>
    show (decide (1 ≤ xs.length) && decide (xs.length ≤ 6) && xs.all (isWh 0) && decide (xs.length = n)) = (decide (1 ≤ (n : Int)) && decide ((n : Int) ≤ 6) && (decide ((xs.length : Int) = n) && xs.all (isWh 0)))
    by_cases h : xs.length = n
    · subst h
      rw [decide_eq_true (rfl : xs.length = xs.length), decide_eq_true (rfl : (xs.length : Int) = xs.length), Bool.and_true, Bool.true_and]
      congr 1
      congr 1
      · exact decide_eq_decide.mpr (by omega)
      · exact decide_eq_decide.mpr (by omega)
    · rw [decide_eq_false h, decide_eq_false (show ¬ (xs.length : Int) = n by omega), Bool.and_false, Bool.false_and, Bool.and_false]
  | _ => show (false && _) = (_ && false); rw [Bool.false_and, Bool.and_false]
theorem gErr_two {signs : Int} {xs : List PyData} (h : ¬ (xs.length : Int) = 2) : gErr signs (.tuple xs) = .str "form" := by
  unfold gErr
  split
  · rename_i w rows e
    injection e with e
    subst e
    exact absurd rfl h
  · rfl
theorem gErr_no {signs : Int} {x y : PyData} (h : isWh 1 x = false) : gErr signs (.tuple [x, y]) = .str "form" := by
  unfold gErr
  split
  · rename_i w rows e
    injection e with e
    injection e with e1 e2
    subst e1
    simp only [isWh, decide_eq_false_iff_not] at h
    rw [if_neg (by omega)]
  · rfl
theorem gRows_bad {w : Int} {rows : List PyData} {i : Nat} (h : findBad (gRow (lenT (rows.headD .none))) 0 rows = some i) : gRows w rows = errAt "row" i := by
  unfold gRows
  rw [h]
theorem gRows_good {w : Int} {rows : List PyData} (h : findBad (gRow (lenT (rows.headD .none))) 0 rows = none) : gRows w rows = sumErr w 0 rows := by
  unfold gRows
  rw [h]
def phLLook : Ph := fun us Q => ∃ states signs : Int, us = [.pot, .d (.int states), .d (.int signs)] ∧ 0 ≤ states ∧ states ≤ 1000 ∧ 1 ≤ signs ∧ signs ≤ 1000 ∧ ∀ (w : Int) (rows : List (List Int)), 1 ≤ w → w ≤ 60 → IsLook w states.toNat signs.toNat rows → Q (.d (lookD w rows))
theorem phLLook_len {us : List U} {Q : U → Prop} (h : phLLook us Q) : us.length = 3 := by
  obtain ⟨a, b, rfl, _⟩ := h; rfl
theorem phLLook_mono : PhM phLLook := fun us Q Q' h ⟨x, y, a, b, c, d, e, q⟩ => ⟨x, y, a, b, c, d, e, fun w rows h1 h2 h3 => h _ (q w rows h1 h2 h3)⟩

/-! garblings judged -/
def BB : Int := 10 ^ 60
def phLOdd : Ph := fun us Q => us = [.pot] ∧ ∀ d, (Tm BB 500 4 d ∨ d = .dict []) → Q (.d d)
theorem phLOdd_len {us : List U} {Q : U → Prop} (h : phLOdd us Q) : us.length = 1 := by
  obtain ⟨rfl, _⟩ := h; rfl
theorem phLOdd_mono : PhM phLOdd := fun us Q Q' h ⟨a, q⟩ => ⟨a, fun d hd => h _ (q d hd)⟩
/-- a value is shown -/
def VOk (d : PyData) : Prop := ShowsX (.list [d])
/-- the garbling that is spoilt -/
structure Gb (w : Int) (rows : List (List Int)) : Prop where
  w0 : 1 ≤ w
  w1 : w ≤ 10 ^ 32
  ne : 1 ≤ rows.length
  le : rows.length ≤ 6
  row : ∀ r ∈ rows, 1 ≤ r.length ∧ r.length ≤ 6 ∧ ∀ x ∈ r, 0 ≤ x ∧ x ≤ 10 ^ 32
abbrev El (d : PyData) : Prop := Tm BB 5500 5 d
def phLWrongPairs : Ph := fun us Q => ∃ (w : Int) (rows : List (List Int)), us = [.pot, .d (lookD w rows)] ∧ Gb w rows ∧ ∀ (ps : List (PyData × PyData)) (es : List PyData), ps.length = 11 → es.length ≤ 30 →
  (∀ p ∈ ps, El (.tuple [p.1, p.2])) → (∀ d ∈ es, El d) → Q (.d (.list (ps.map (fun p => .tuple [p.1, p.2]) ++ es)))
theorem phLWrongPairs_len {us : List U} {Q : U → Prop} (h : phLWrongPairs us Q) : us.length = 2 := by
  obtain ⟨a, b, rfl, _⟩ := h; rfl
theorem phLWrongPairs_mono : PhM phLWrongPairs := fun us Q Q' h ⟨x, y, a, b, q⟩ => ⟨x, y, a, b, fun ps es h1 h2 h3 h4 => h _ (q ps es h1 h2 h3 h4)⟩
theorem tms_len2 {b : Int} {w k : Nat} {xs : List PyData} (h : ∀ x ∈ xs, Tm b w k x) : Tms b (xs.length * (w + 1)) k xs := by
  have := tms_of (b := b) (w := w) (k := k) (g := fun x : PyData => x) (ls := xs) h
  rw [List.map_id'] at this
  exact this
theorem tms_to {w k n : Nat} {xs : List PyData} (h : ∀ x ∈ xs, Tm BB w k x) (hl : xs.length ≤ n) : Tms BB (n * (w + 1)) k xs := (tms_len2 h).le (Int.le_refl _) (Nat.mul_le_mul_right _ hl) (Nat.le_refl _)
theorem tm_pair {w1 w2 k : Nat} {x y : PyData} (h1 : Tm BB w1 k x) (h2 : Tm BB w2 k y) : Tm BB (w1 + 1 + (w2 + 1)) (k + 1) (.tuple [x, y]) := ((Tms.one h1).app (Tms.one h2)).tup
theorem ti {x : Int} (h : x.natAbs ≤ 10 ^ 33) : Tm BB 110 0 (.int x) := tm_int (by unfold BB; omega) (by unfold BB; omega) (by
  have : (10 : Nat) ^ 33 < 2 ^ 110 := by decide +kernel
  omega) (by decide)
theorem putD_len {xs : List PyData} {i : Nat} {d : PyData} (h : i < xs.length) : (putD xs i d).length = xs.length := by
  unfold putD
  rw [List.length_append, List.length_cons, List.length_take, List.length_drop]
  omega
theorem putD_mem {xs : List PyData} {i : Nat} {d x : PyData} (h : x ∈ putD xs i d) : x ∈ xs ∨ x = d := by
  unfold putD at h
  rcases List.mem_append.mp h with z | z
  · exact .inl (List.mem_of_mem_take z)
  · rcases List.mem_cons.mp z with z | z
    · exact .inr z
    · exact .inl (List.mem_of_mem_drop z)
/-- a row's items -/
theorem row_items {w : Int} {rows : List (List Int)} (g : Gb w rows) {r : List Int} (hr : r ∈ rows) : ∀ x ∈ r.map PyData.int, Tm BB 110 0 x := fun x hx => by
  obtain ⟨i, hi, rfl⟩ := List.mem_map.mp hx
  have := (g.row r hr).2.2 i hi
  exact ti (by omega)
theorem row_tm {w : Int} {rows : List (List Int)} (g : Gb w rows) {r : List Int} (hr : r ∈ rows) : Tm BB 777 1 (.tuple (r.map .int)) :=
  (tms_to (n := 6) (row_items g hr) (by rw [List.length_map]; exact (g.row r hr).2.1)).tup.le (Int.le_refl _) (by decide) (Nat.le_refl _)
theorem rows_tm {w : Int} {rows : List (List Int)} (g : Gb w rows) : ∀ x ∈ rowsD rows, Tm BB 777 1 x := fun x hx => by
  obtain ⟨r, hr, rfl⟩ := List.mem_map.mp hx
  exact row_tm g hr
theorem put_el {w : Int} {rows : List (List Int)} (g : Gb w rows) {k : Nat} {x : PyData} (hk : k < rows.length) (hx : Tm BB 777 1 x) : El (.tuple [.int w, .tuple (putD (rowsD rows) k x)]) := by
  have hl := rowsD_len rows
  have t := tms_to (n := 6) (xs := putD (rowsD rows) k x) (fun y hy => by
    rcases putD_mem hy with z | z
    · exact rows_tm g y z
    · rw [z]; exact hx) (by rw [putD_len (by omega)]; have := g.le; omega)
  have := g.w1
  have := g.w0
  exact (tm_pair ((ti (x := w) (by omega)).le (Int.le_refl _) (Nat.le_refl _) (Nat.zero_le 2)) t.tup).le (Int.le_refl _) (by decide) (by decide)
theorem rows_el {w : Int} {rows : List (List Int)} (g : Gb w rows) {x : PyData} (hx : Tm BB 112 2 x) : El (.tuple [x, .tuple (rowsD rows)]) :=
  (tm_pair hx (tms_to (n := 6) (rows_tm g) (by rw [rowsD_len]; exact g.le)).tup).le (Int.le_refl _) (by decide) (by decide)
theorem sh_gErr (signs : Int) (d : PyData) (hs : signs ≤ 1000) : ShowsX (gErr signs d) := by
  have form : Sh 1000 1 (.str "form") := (sh_word "form" (by decide +kernel)).le (by decide) (by decide)
  have non : Sh 1000 1 .none := ⟨by simp only [PyData.plain], by simp only [PyData.showable], by simp only [PyData.depth]; omega, by simp only [PyData.shown]; decide +kernel⟩
  have all : Sh 5000 1 (gErr signs d) := by
    unfold gErr
    split
    · split
      · rename_i w rows hh
        unfold gRows
        split
        · rename_i i hi
          have := findBad_le hi
          refine (sh_tup (s := 1000) (k := 0) (ds := [.str "row", .int (i : Int)]) fun x hx => ?_).le (by show 2 * (1000 + 2) + 3 ≤ 5000; decide) (Nat.le_refl 1)
          simp only [List.mem_cons, List.not_mem_nil, or_false] at hx
          rcases hx with rfl | rfl
          · exact (sh_word "row" (by decide +kernel)).le (by decide) (by decide)
          · exact (sh_int (by omega) (by omega)).le (by decide) (by decide)
        · unfold sumErr
          split
          · rename_i i hi
            have := findBad_le hi
            refine (sh_tup (s := 1000) (k := 0) (ds := [.str "sum", .int (i : Int)]) fun x hx => ?_).le (by show 2 * (1000 + 2) + 3 ≤ 5000; decide) (Nat.le_refl 1)
            simp only [List.mem_cons, List.not_mem_nil, or_false] at hx
            rcases hx with rfl | rfl
            · exact (sh_word "sum" (by decide +kernel)).le (by decide) (by decide)
            · exact (sh_int (by omega) (by omega)).le (by decide) (by decide)
          · exact non.le (by decide) (by decide)
      · exact form.le (by decide) (by decide)
    · exact form.le (by decide) (by decide)
  exact all.showsX (by decide) (by decide)
/-- a value of the law's list -/
def Va (d : PyData) : Prop := Tm BB 5700 5 d ∨ d = .dict []
theorem va_shows {d : PyData} (h : Va d) : ShowsX (.list [d]) := by
  rcases h with h | rfl
  · exact tm_shows2 ((Tms.one h).list) (by unfold BB; decide +kernel) (by decide) (by decide)
  · exact ⟨by decide +kernel, by decide +kernel, by decide +kernel⟩
theorem twice_va {v : Int} {p : PyData × PyData} (hv : v.natAbs ≤ 10 ^ 33) (h : El (.tuple [p.1, p.2])) : Va (.tuple [.int v, p.2]) := by
  have t := Tm.ofTup (k := 4) h
  have t2 : Tm BB 5500 4 p.2 := t.get (by simp)
  exact .inl ((tm_pair ((ti hv).le (Int.le_refl _) (Nat.le_refl _) (by decide)) t2).le (Int.le_refl _) (by decide) (by decide))
theorem gb_of {w t : Int} {n m : Nat} {rows : List (List Int)} (lk : IsLook w n m rows) (w1 : 1 ≤ w) (w2 : w ≤ 60) (n1 : 1 ≤ n) (n2 : n ≤ 6) (m1 : 1 ≤ m) (m2 : m ≤ 6) (t1 : 1 ≤ t) (t2 : t ≤ 10 ^ 30) : Gb (w * t) (rows.map fun r => r.map (· * t)) := by
  refine ⟨?_, ?_, by rw [List.length_map, lk.len]; exact n1, by rw [List.length_map, lk.len]; exact n2, fun r hr => ?_⟩
  · have := Int.mul_le_mul w1 t1 (by decide) (by omega)
    omega
  · have := Int.mul_le_mul w2 t2 (by omega) (by decide)
    omega
  · obtain ⟨r', hr', rfl⟩ := List.mem_map.mp hr
    have pr := lk.each r' hr'
    refine ⟨by rw [List.length_map, pr.len]; exact m1, by rw [List.length_map, pr.len]; exact m2, fun x hx => ?_⟩
    obtain ⟨y, hy, rfl⟩ := List.mem_map.mp hx
    have := pr.nn y hy
    constructor
    · exact Int.mul_nonneg this.1 (by omega)
    · have := Int.mul_le_mul (show y ≤ 60 by omega) t2 (by omega) (by decide)
      omega

/-! garblings: products of tables, lowest terms -/
theorem dvd_gcdW {ns : List Int} {d : Int} (h : ∀ n ∈ ns, d ∣ n) : d ∣ gcdL ns := by
  have all : ∀ (ns : List Int) (g : Int), d ∣ g → (∀ n ∈ ns, d ∣ n) → d ∣ ns.foldl gcdF g := by
    intro ns
    induction ns with
    | nil => exact fun g hg _ => hg
    | cons n ns ih =>
      intro g hg hn
      rw [List.foldl_cons]
      exact ih _ (Int.dvd_coe_gcd hg (hn n List.mem_cons_self)) fun m hm => hn m (List.mem_cons_of_mem _ hm)
  exact all ns 0 (Int.dvd_zero d) h
/-- the common divisor of a whole and a table -/
def gW (w : Int) (R : List (List Int)) : Int := gcdL (w :: R.flatten)
theorem gW_pos {w : Int} {R : List (List Int)} (h : 1 ≤ w) : 0 < gW w R ∧ gW w R ≤ w := by
  have d : gW w R ∣ w := gcdL_dvd List.mem_cons_self
  have n : 0 ≤ gW w R := gcdL_nn _
  have le := Int.le_of_dvd (by omega) d
  refine ⟨?_, le⟩
  rcases Int.lt_or_eq_of_le n with z | z
  · exact z
  · have := gcdL_zero z.symm w List.mem_cons_self
    omega
theorem gW_whole {w : Int} {R : List (List Int)} : gW w R ∣ w := gcdL_dvd List.mem_cons_self
theorem gW_item {w : Int} {R : List (List Int)} {r : List Int} {x : Int} (hr : r ∈ R) (hx : x ∈ r) : gW w R ∣ x := gcdL_dvd (List.mem_cons_of_mem _ (List.mem_flatten.mpr ⟨r, hr, hx⟩))
/-- in lowest terms -/
def lowR (w : Int) (R : List (List Int)) : List (List Int) := R.map fun r => r.map (· / gW w R)
def lowW (w : Int) (R : List (List Int)) : Int := w / gW w R
def lowM (w : Int) (R : List (List Int)) : PyData := lookD (lowW w R) (lowR w R)
def scaleM (t : Int) (R : List (List Int)) : List (List Int) := R.map fun r => r.map (· * t)
theorem scale_flat (t : Int) (R : List (List Int)) : (scaleM t R).flatten = R.flatten.map (· * t) := by
  unfold scaleM
  rw [List.map_flatten]
theorem gW_scale {t w : Int} {R : List (List Int)} (ht : 0 ≤ t) : gW (w * t) (scaleM t R) = gW w R * t := by
  unfold gW
  rw [scale_flat]
  have e : (w * t) :: R.flatten.map (· * t) = (w :: R.flatten).map (t * ·) := by
    rw [List.map_cons, Int.mul_comm]
    congr 1
    exact List.map_congr_left fun x _ => Int.mul_comm x t
  rw [e, gcdL_mul ht, Int.mul_comm]
theorem lowM_scale {t w : Int} {R : List (List Int)} (ht : 0 < t) : lowM (w * t) (scaleM t R) = lowM w R := by
  have ht0 : t ≠ 0 := by omega
  unfold lowM lowW lowR
  rw [gW_scale (by omega), Int.mul_ediv_mul_of_pos_left _ _ ht]
  congr 1
  unfold scaleM
  rw [List.map_map]
  refine List.map_congr_left fun r _ => ?_
  show (r.map (· * t)).map (· / (gW w R * t)) = _
  rw [List.map_map]
  exact List.map_congr_left fun x _ => Int.mul_ediv_mul_of_pos_left x _ ht
theorem lowW_mul (w : Int) (R : List (List Int)) : lowW w R * gW w R = w := Int.ediv_mul_cancel gW_whole
theorem lowR_scale (w : Int) (R : List (List Int)) : scaleM (gW w R) (lowR w R) = R := by
  unfold scaleM lowR
  rw [List.map_map]
  refine (List.map_congr_left fun r hr => ?_).trans (List.map_id' R)
  show (r.map (· / gW w R)).map (· * gW w R) = r
  rw [List.map_map]
  exact (List.map_congr_left fun x hx => Int.ediv_mul_cancel (gW_item hr hx)).trans (List.map_id' r)
theorem lowR_tab {w : Int} {st n : Nat} {b : Int} {R : List (List Int)} (w1 : 1 ≤ w) (h : Tab st n b R) : Tab st n b (lowR w R) := by
  have g := gW_pos (R := R) w1
  refine ⟨by unfold lowR; rw [List.length_map]; exact h.len, fun r hr => ?_, fun r hr x hx => ?_⟩
  · obtain ⟨r', hr', rfl⟩ := List.mem_map.mp hr
    rw [List.length_map]
    exact h.row r' hr'
  · obtain ⟨r', hr', rfl⟩ := List.mem_map.mp hr
    obtain ⟨y, hy, rfl⟩ := List.mem_map.mp hx
    have := h.ent r' hr' y hy
    exact ⟨Int.ediv_nonneg this.1 (by omega), Int.le_trans (Int.ediv_le_self _ this.1) this.2⟩
theorem lowW_le {w : Int} {R : List (List Int)} (w1 : 1 ≤ w) : 1 ≤ lowW w R ∧ lowW w R ≤ w := by
  have g := gW_pos (R := R) w1
  refine ⟨?_, Int.ediv_le_self _ (by omega)⟩
  have := lowW_mul w R
  rcases Int.lt_or_le 0 (lowW w R) with z | z
  · omega
  · have := Int.mul_nonpos_of_nonpos_of_nonneg z (show 0 ≤ gW w R by omega)
    omega
/-! products -/
def dot (r c : List Int) : Int := ((r.zip c).map fun p => p.1 * p.2).sum
def colJ (G : List (List Int)) (j : Nat) : List Int := G.map fun r => r.getD j 0
def mulM (R G : List (List Int)) (n : Nat) : List (List Int) := R.map fun r => (List.range n).map fun j => dot r (colJ G j)
theorem dot_nil (c : List Int) : dot [] c = 0 := rfl
theorem dot_nilr (r : List Int) : dot r [] = 0 := by unfold dot; rw [List.zip_nil_right]; rfl
theorem dot_cons (x y : Int) (r c : List Int) : dot (x :: r) (y :: c) = x * y + dot r c := by
  unfold dot
  rw [List.zip_cons_cons, List.map_cons, List.sum_cons]
/-- a sum over the first numbers -/
def sumN (n : Nat) (f : Nat → Int) : Int := ((List.range n).map f).sum
theorem sum_mapadd {α : Type} (f g : α → Int) : ∀ l : List α, (l.map fun x => f x + g x).sum = (l.map f).sum + (l.map g).sum
  | [] => rfl
  | x :: l => by
    rw [List.map_cons, List.map_cons, List.map_cons, List.sum_cons, List.sum_cons, List.sum_cons, sum_mapadd f g l]
    omega
theorem sum_mapmul {α : Type} (c : Int) (f : α → Int) : ∀ l : List α, (l.map fun x => c * f x).sum = c * (l.map f).sum
  | [] => by simp
  | x :: l => by
    rw [List.map_cons, List.map_cons, List.sum_cons, List.sum_cons, sum_mapmul c f l, Int.mul_add]
theorem sumN_add (n : Nat) (f g : Nat → Int) : sumN n (fun j => f j + g j) = sumN n f + sumN n g := sum_mapadd f g _
theorem sumN_mul (n : Nat) (c : Int) (f : Nat → Int) : sumN n (fun j => c * f j) = c * sumN n f := sum_mapmul c f _
theorem sumN_zero (n : Nat) : sumN n (fun _ => 0) = 0 := by
  have := sumN_mul n 0 (fun _ => 0)
  simpa using this
theorem sumN_congr {n : Nat} {f g : Nat → Int} (h : ∀ j, j < n → f j = g j) : sumN n f = sumN n g := by
  unfold sumN
  congr 1
  exact List.map_congr_left fun j hj => h j (List.mem_range.mp hj)
theorem zip_map_same {α β γ : Type} (f : α → β) (g : α → γ) : ∀ l : List α, (l.map f).zip (l.map g) = l.map fun x => (f x, g x)
  | [] => rfl
  | x :: l => by rw [List.map_cons, List.map_cons, List.zip_cons_cons, zip_map_same f g l]; rfl
theorem dot_range {n : Nat} {c : List Int} (f : Nat → Int) (hc : c.length = n) : dot ((List.range n).map f) c = sumN n fun j => f j * c.getD j 0 := by
  subst hc
  conv => lhs; rw [← range_getD c]
  rw [List.length_map, List.length_range]
  unfold dot sumN
  rw [zip_map_same, List.map_map]
  rfl
theorem dot_list {n : Nat} {r c : List Int} (hr : r.length = n) (hc : c.length = n) : dot r c = sumN n fun j => r.getD j 0 * c.getD j 0 := by
  subst hr
  conv => lhs; rw [← range_getD r]
  exact dot_range _ hc
/-- a row times two tables -/
theorem dot_assoc {n : Nat} {c : List Int} (hc : c.length = n) : ∀ {r : List Int} {G : List (List Int)}, (∀ g ∈ G, g.length = n) → dot ((List.range n).map fun j => dot r (colJ G j)) c = dot r (G.map fun g => dot g c)
  | [], G, _ => by
    rw [dot_nil, dot_range _ hc]
    exact (sumN_congr fun j _ => by rw [dot_nil, Int.zero_mul]).trans (sumN_zero n)
  | x :: r, [], _ => by
    rw [dot_range _ hc, List.map_nil, dot_nilr]
    exact (sumN_congr fun j _ => by unfold colJ; rw [List.map_nil, dot_nilr, Int.zero_mul]).trans (sumN_zero n)
  | x :: r, g :: G, h => by
    have ih := dot_assoc hc (r := r) (G := G) fun g hg => h g (List.mem_cons_of_mem _ hg)
    rw [dot_range _ hc] at ih
    rw [dot_range _ hc, List.map_cons, dot_cons, ← ih, dot_list (h g List.mem_cons_self) hc, ← sumN_mul, ← sumN_add]
    refine sumN_congr fun j _ => ?_
    unfold colJ
    rw [List.map_cons, dot_cons, Int.add_mul, Int.mul_assoc]
theorem mulM_assoc {o e : Nat} {R G H : List (List Int)} (hG : ∀ g ∈ G, g.length = o) (hH : H.length = o) : mulM (mulM R G o) H e = mulM R (mulM G H e) e := by
  unfold mulM
  rw [List.map_map]
  refine List.map_congr_left fun r _ => ?_
  refine List.map_congr_left fun j hj => ?_
  have hj := List.mem_range.mp hj
  show dot ((List.range o).map fun j => dot r (colJ G j)) (colJ H j) = _
  rw [dot_assoc (by unfold colJ; rw [List.length_map]; exact hH) hG]
  congr 1
  unfold colJ
  rw [List.map_map]
  refine List.map_congr_left fun g _ => ?_
  show _ = ((List.range e).map fun j => dot g (colJ H j)).getD j 0
  rw [List.getD_eq_getElem?_getD, List.getElem?_map, List.getElem?_range hj]
  rfl
theorem dot_scale_l (t : Int) : ∀ (r c : List Int), dot (r.map (· * t)) c = dot r c * t
  | [], c => by rw [List.map_nil, dot_nil, Int.zero_mul]
  | x :: r, [] => by rw [dot_nilr, dot_nilr, Int.zero_mul]
  | x :: r, y :: c => by
    rw [List.map_cons, dot_cons, dot_cons, dot_scale_l t r c, Int.add_mul]
    congr 1
    rw [Int.mul_assoc, Int.mul_assoc, Int.mul_comm t y]
theorem dot_scale_r (t : Int) : ∀ (r c : List Int), dot r (c.map (· * t)) = dot r c * t
  | [], c => by rw [dot_nil, dot_nil, Int.zero_mul]
  | x :: r, [] => by rw [List.map_nil, dot_nilr, Int.zero_mul]
  | x :: r, y :: c => by
    rw [List.map_cons, dot_cons, dot_cons, dot_scale_r t r c, Int.add_mul, Int.mul_assoc]
theorem mulM_scale_l (t : Int) (R G : List (List Int)) (n : Nat) : mulM (scaleM t R) G n = scaleM t (mulM R G n) := by
  unfold mulM scaleM
  rw [List.map_map, List.map_map]
  refine List.map_congr_left fun r _ => ?_
  show ((List.range n).map fun j => dot (r.map (· * t)) (colJ G j)) = ((List.range n).map fun j => dot r (colJ G j)).map (· * t)
  rw [List.map_map]
  exact List.map_congr_left fun j _ => dot_scale_l t _ _
theorem colJ_scale (t : Int) (G : List (List Int)) (j : Nat) : colJ (scaleM t G) j = (colJ G j).map (· * t) := by
  unfold colJ scaleM
  rw [List.map_map, List.map_map]
  refine List.map_congr_left fun r _ => ?_
  exact getD_map_mul r t j
theorem mulM_scale_r (t : Int) (R G : List (List Int)) (n : Nat) : mulM R (scaleM t G) n = scaleM t (mulM R G n) := by
  unfold mulM
  rw [show scaleM t (R.map fun r => (List.range n).map fun j => dot r (colJ G j)) = R.map fun r => ((List.range n).map fun j => dot r (colJ G j)).map (· * t) by unfold scaleM; rw [List.map_map]; rfl]
  refine List.map_congr_left fun r _ => ?_
  rw [List.map_map]
  refine List.map_congr_left fun j _ => ?_
  rw [colJ_scale]
  exact dot_scale_r t _ _
/-- what it is to be garbled -/
def garbM (w : Int) (R : List (List Int)) (h : Int) (G : List (List Int)) (o : Nat) : PyData := lowM (w * h) (mulM R G o)
theorem garb_left {w h h2 : Int} {R G H : List (List Int)} {o e : Nat} (w1 : 1 ≤ w * h) (hG : ∀ g ∈ G, g.length = o) (hH : H.length = o) :
    garbM (lowW (w * h) (mulM R G o)) (lowR (w * h) (mulM R G o)) h2 H e = lowM (w * h * h2) (mulM R (mulM G H e) e) := by
  have g := gW_pos (R := mulM R G o) w1
  unfold garbM
  rw [← lowM_scale g.1, ← mulM_scale_l, lowR_scale, mulM_assoc hG hH]
  congr 1
  have := lowW_mul (w * h) (mulM R G o)
  rw [Int.mul_right_comm, this]
theorem garb_right {w h h2 : Int} {R G H : List (List Int)} {e : Nat} (w1 : 1 ≤ h * h2) :
    garbM w R (lowW (h * h2) (mulM G H e)) (lowR (h * h2) (mulM G H e)) e = lowM (w * h * h2) (mulM R (mulM G H e) e) := by
  have g := gW_pos (R := mulM G H e) w1
  unfold garbM
  rw [← lowM_scale g.1, ← mulM_scale_r, lowR_scale]
  congr 1
  have := lowW_mul (h * h2) (mulM G H e)
  rw [Int.mul_assoc, this, Int.mul_assoc]
/-- one leaves all as it is -/
def unitM (n : Nat) : List (List Int) := (List.range n).map fun i => (List.range n).map fun j => if i = j then 1 else 0
theorem sumN_one {n j : Nat} (f : Nat → Int) (hj : j < n) : sumN n (fun i => f i * (if i = j then 1 else 0)) = f j := by
  induction n with
  | zero => omega
  | succ n ih =>
    unfold sumN at ih ⊢
    rw [List.range_succ, List.map_append, List.sum_append, List.map_singleton, List.sum_singleton]
    by_cases h : j = n
    · subst h
      rw [if_pos rfl, Int.mul_one]
      have z : ((List.range j).map fun i => f i * (if i = j then 1 else 0)).sum = 0 := by
        refine (show _ = sumN j (fun _ => 0) from congrArg List.sum (List.map_congr_left fun i hi => ?_)).trans (sumN_zero j)
        rw [if_neg (by have := List.mem_range.mp hi; omega), Int.mul_zero]
      rw [z, Int.zero_add]
    · rw [ih (by omega), if_neg (fun z => h z.symm), Int.mul_zero, Int.add_zero]
theorem mulM_unit {n : Nat} {R : List (List Int)} (h : ∀ r ∈ R, r.length = n) : mulM R (unitM n) n = R := by
  unfold mulM
  refine (List.map_congr_left fun r hr => ?_).trans (List.map_id' R)
  have hl := h r hr
  have e : ((List.range n).map fun j => dot r (colJ (unitM n) j)) = (List.range r.length).map fun j => r.getD j 0 := by
    rw [hl]
    refine List.map_congr_left fun j hj => ?_
    have hj := List.mem_range.mp hj
    rw [dot_list hl (by unfold colJ unitM; rw [List.length_map, List.length_map, List.length_range])]
    refine (sumN_congr fun i hi => ?_).trans (sumN_one (fun i => r.getD i 0) hj)
    congr 1
    unfold colJ unitM
    rw [List.getD_eq_getElem?_getD, List.map_map, List.getElem?_map, List.getElem?_range hi]
    show ((List.range n).map fun j => if i = j then (1 : Int) else 0).getD j 0 = _
    rw [List.getD_eq_getElem?_getD, List.getElem?_map, List.getElem?_range hj]
    rfl
  rw [e]
  exact range_getD r
theorem rowsB_ofW {rows : List (List Int)} {n : Nat} (ne : rows ≠ []) (h12 : rows.length ≤ 12) (h : ∀ r ∈ rows, r.length = n) : RowsB n (rowsD rows) (rows.map fun r => r.map .int) := by
  refine ⟨?_, fun z => ne (List.map_eq_nil_iff.mp z), by rw [List.length_map]; exact h12, fun r hr => ?_⟩
  · unfold rowsD
    rw [List.map_map, List.map_map]
    rfl
  · obtain ⟨r', hr', rfl⟩ := List.mem_map.mp hr
    rw [List.length_map]
    exact h r' hr'
theorem cols_rowsW {rows : List (List Int)} {n : Nat} (h : ∀ r ∈ rows, r.length = n) : colsD (rows.map fun r => r.map PyData.int) n = rowsD (turn rows n) := by
  unfold colsD rowsD turn
  rw [List.map_map]
  refine List.map_congr_left fun j hj => ?_
  have hj := List.mem_range.mp hj
  show PyData.tuple _ = PyData.tuple _
  congr 1
  rw [List.map_map, List.map_map]
  refine List.map_congr_left fun r hr => ?_
  have := h r hr
  show (r.map PyData.int).getD j .none = .int (r.getD j 0)
  rw [List.getD_eq_getElem?_getD, List.getElem?_map, List.getElem?_eq_getElem (by omega), List.getD_eq_getElem?_getD, List.getElem?_eq_getElem (by omega)]
  rfl
theorem turn_colJ (G : List (List Int)) (n : Nat) : turn G n = (List.range n).map (colJ G) := rfl
theorem lc2Go_funW {α : Type} (F : α → PyData) (g : α → List PyData) {mg mg1 : MG} {mt mt1 : MT} {mi1 : MI} {me : M} {vs1 : List Nat} {e : En} {Q : List PyData → Prop} : ∀ (ls : List α) (acc : List PyData),
    (∀ a ∈ ls, ∀ (acc : List PyData) (R : List PyData → Prop), acc.length + (g a).length ≤ 1000000 → R (acc ++ g a) → mg (.d (F a)) e fun e1 => mt e1 fun b => if b = true then mi1 e1 fun ds1 => acc.length + ds1.length ≤ 1000000 ∧ lcGo mg1 mt1 me (wipeE e1 vs1) R ds1 acc else R acc) →
    acc.length + ((ls.map g).flatten).length ≤ 1000000 → Q (acc ++ (ls.map g).flatten) → lc2Go mg mt mi1 mg1 mt1 me vs1 e Q (ls.map F) acc
  | [], acc, _, _, q => by
    rw [List.map_nil, List.flatten_nil, List.append_nil] at q
    exact q
  | a :: ls, acc, h, hl, q => by
    rw [List.map_cons, List.flatten_cons, List.length_append] at hl
    refine h a List.mem_cons_self acc (fun acc' => lc2Go mg mt mi1 mg1 mt1 me vs1 e Q (ls.map F) acc') (by omega) ?_
    refine lc2Go_funW F g ls _ (fun b hb => h b (List.mem_cons_of_mem _ hb)) (by rw [List.length_append]; omega) ?_
    rw [List.map_cons, List.flatten_cons, ← List.append_assoc] at q
    exact q
theorem flat_leW {m : Nat} : ∀ {R : List (List Int)}, (∀ r ∈ R, r.length ≤ m) → R.flatten.length ≤ R.length * m
  | [], _ => by simp
  | r :: R, h => by
    have ih := flat_leW (m := m) fun x hx => h x (List.mem_cons_of_mem r hx)
    have := h r List.mem_cons_self
    rw [List.flatten_cons, List.length_append, List.length_cons, Nat.succ_mul]
    omega
theorem flat_mapW (f : Int → PyData) : ∀ rs : List (List Int), (rs.map fun r => r.map f).flatten = rs.flatten.map f
  | [] => rfl
  | r :: rs => by rw [List.map_cons, List.flatten_cons, List.flatten_cons, List.map_append, flat_mapW f rs]
theorem gcdL_congrW {ns ms : List Int} (h : ∀ d : Int, (∀ n ∈ ns, d ∣ n) ↔ ∀ m ∈ ms, d ∣ m) : gcdL ns = gcdL ms :=
  Int.dvd_antisymm (gcdL_nn _) (gcdL_nn _) (dvd_gcdW ((h _).mp fun _ hn => gcdL_dvd hn)) (dvd_gcdW ((h _).mpr fun _ hn => gcdL_dvd hn))
theorem gcdL_oneW {w : Int} (h : 0 ≤ w) : gcdL [w] = w :=
  Int.dvd_antisymm (gcdL_nn _) h (gcdL_dvd List.mem_cons_self) (dvd_gcdW fun n hn => by rw [List.mem_singleton.mp hn]; exact Int.dvd_refl _)
theorem gcdL_stepW (w : Int) (xs r : List Int) : gcdL (gcdL (w :: xs) :: r) = gcdL (w :: (xs ++ r)) := gcdL_congrW fun d => by
  constructor
  · intro h m hm
    have hg := h _ List.mem_cons_self
    rcases List.mem_cons.mp hm with rfl | hm
    · exact Int.dvd_trans hg (gcdL_dvd List.mem_cons_self)
    · rcases List.mem_append.mp hm with hm | hm
      · exact Int.dvd_trans hg (gcdL_dvd (List.mem_cons_of_mem _ hm))
      · exact h m (List.mem_cons_of_mem _ hm)
  · intro h m hm
    rcases List.mem_cons.mp hm with rfl | hm
    · exact dvd_gcdW fun n hn => by
        rcases List.mem_cons.mp hn with rfl | hn
        · exact h _ List.mem_cons_self
        · exact h _ (List.mem_cons_of_mem _ (List.mem_append_left _ hn))
    · exact h m (List.mem_cons_of_mem _ (List.mem_append_right _ hm))
theorem gcdF_L (w : Int) (xs : List Int) (x : Int) : gcdF (gcdL (w :: xs)) x = gcdL (w :: (xs ++ [x])) := by
  have h := gcdL_stepW w xs [x]
  rw [← h]
  have e : gcdF 0 (gcdL (w :: xs)) = gcdL (w :: xs) := gcdL_oneW (gcdL_nn _)
  show gcdF _ _ = gcdF (gcdF 0 (gcdL (w :: xs))) x
  rw [e]
theorem cdvW {i j : Int} (h : 0 < j) (h' : j ≤ 10 ^ 300) : CDv i j := by
  refine ⟨h, ?_⟩
  have z : j.natAbs ≠ 0 := by omega
  refine (Nat.log2_lt z).mpr (Nat.lt_of_le_of_lt (m := 10 ^ 300) (by omega) (Nat.lt_of_lt_of_le (m := 2 ^ 1200) (by decide +kernel) (Nat.pow_le_pow_right (by decide) (by decide))))
/-! promises -/
def phColumnsOf : Ph := fun us Q => ∃ (w : Int) (st n : Nat) (rows : List (List Int)), us = [.d (lookD w rows)] ∧ Tab st n (10 ^ 100) rows ∧ 1 ≤ st ∧ st ≤ 10 ∧ n ≤ 30 ∧ Q (.d (.list (rowsD (turn rows n))))
theorem phColumnsOf_len {us : List U} {Q : U → Prop} (h : phColumnsOf us Q) : us.length = 1 := by
  obtain ⟨a, b, c, d, rfl, _⟩ := h; rfl
theorem phColumnsOf_mono : PhM phColumnsOf := fun us Q Q' h ⟨x, y, z, u, a, b, c, d, e, q⟩ => ⟨x, y, z, u, a, b, c, d, e, h _ q⟩
/-- a table as data, its rows lists or tuples -/
def rowsL (R : List (List Int)) : List PyData := R.map fun r => .list (r.map .int)
def AsRows (d : PyData) (R : List (List Int)) : Prop := d = .list (rowsL R) ∨ d = .tuple (rowsD R)
def phLowest : Ph := fun us Q => ∃ (w : Int) (d : PyData) (R : List (List Int)), us = [.d (.int w), .d d] ∧ AsRows d R ∧ 1 ≤ w ∧ w ≤ 10 ^ 300 ∧ R.length ≤ 100 ∧ (∀ r ∈ R, r.length ≤ 100 ∧ ∀ x ∈ r, 0 ≤ x) ∧ Q (.d (lowM w R))
theorem phLowest_len {us : List U} {Q : U → Prop} (h : phLowest us Q) : us.length = 2 := by
  obtain ⟨a, b, c, rfl, _⟩ := h; rfl
theorem phLowest_mono : PhM phLowest := fun us Q Q' h ⟨x, y, z, a, b, c, d, e, f, q⟩ => ⟨x, y, z, a, b, c, d, e, f, h _ q⟩
abbrev phLLowest := phLowest
theorem phLLowest_len {us : List U} {Q : U → Prop} (h : phLowest us Q) : us.length = 2 := phLowest_len h
theorem phLLowest_mono : PhM phLowest := phLowest_mono
def phLCommon : Ph := fun us Q => ∃ a b : Int, us = [.d (.int a), .d (.int b)] ∧ 0 ≤ a ∧ 0 ≤ b ∧ Q (.d (.int (gcdF a b)))
theorem phLCommon_len {us : List U} {Q : U → Prop} (h : phLCommon us Q) : us.length = 2 := by
  obtain ⟨a, b, rfl, _⟩ := h; rfl
theorem phLCommon_mono : PhM phLCommon := fun us Q Q' h ⟨x, y, a, b, c, q⟩ => ⟨x, y, a, b, c, h _ q⟩
/-- two tables that may be multiplied -/
structure Two (st sg o : Nat) (w : Int) (R : List (List Int)) (h : Int) (G : List (List Int)) : Prop where
  r : Tab st sg 100000000 R
  g : Tab sg o (10 ^ 100) G
  w1 : 1 ≤ w
  w2 : w ≤ 100000000
  h1 : 1 ≤ h
  h2 : h ≤ 10 ^ 100
  st10 : st ≤ 10
  sg1 : 1 ≤ sg
  sg10 : sg ≤ 10
  o30 : o ≤ 30
def phGarbled : Ph := fun us Q => ∃ (st sg o : Nat) (w : Int) (R : List (List Int)) (h : Int) (G : List (List Int)), us = [.d (lookD w R), .d (lookD h G)] ∧ Two st sg o w R h G ∧ Q (.d (garbM w R h G o))
theorem phGarbled_len {us : List U} {Q : U → Prop} (h : phGarbled us Q) : us.length = 2 := by
  obtain ⟨_, _, _, _, _, _, _, rfl, _⟩ := h; rfl
theorem phGarbled_mono : PhM phGarbled := fun us Q Q' h ⟨a, b, c, d, e, f, g, i, j, q⟩ => ⟨a, b, c, d, e, f, g, i, j, h _ q⟩
abbrev phComposed := phGarbled
theorem phComposed_len {us : List U} {Q : U → Prop} (h : phGarbled us Q) : us.length = 2 := phGarbled_len h
theorem phComposed_mono : PhM phGarbled := phGarbled_mono
abbrev phLPassed := phGarbled
theorem phLPassed_len {us : List U} {Q : U → Prop} (h : phGarbled us Q) : us.length = 2 := phGarbled_len h
theorem phLPassed_mono : PhM phGarbled := phGarbled_mono
abbrev phLComposed := phGarbled
theorem phLComposed_len {us : List U} {Q : U → Prop} (h : phGarbled us Q) : us.length = 2 := phGarbled_len h
theorem phLComposed_mono : PhM phGarbled := phGarbled_mono
def phLUnit : Ph := fun us Q => ∃ n : Int, us = [.d (.int n)] ∧ 0 ≤ n ∧ n ≤ 1000 ∧ Q (.d (lookD 1 (unitM n.toNat)))
theorem phLUnit_len {us : List U} {Q : U → Prop} (h : phLUnit us Q) : us.length = 1 := by
  obtain ⟨_, rfl, _⟩ := h; rfl
theorem phLUnit_mono : PhM phLUnit := fun us Q Q' h ⟨a, b, c, d, q⟩ => ⟨a, b, c, d, h _ q⟩
theorem dot_colJ (j : Nat) : ∀ (r : List Int) (G : List (List Int)), ((r.zip G).map fun p => p.1 * p.2.getD j 0).sum = dot r (colJ G j)
  | [], G => rfl
  | x :: r, [] => by unfold colJ; rw [List.map_nil, dot_nilr, List.zip_nil_right]; rfl
  | x :: r, g :: G => by
    have ih := dot_colJ j r G
    unfold colJ at ih ⊢
    rw [List.zip_cons_cons, List.map_cons, List.sum_cons, ih, List.map_cons, dot_cons]
theorem dot_bd {b c : Int} (hb : 0 ≤ b) (hc : 0 ≤ c) : ∀ {r k : List Int}, (∀ x ∈ r, 0 ≤ x ∧ x ≤ b) → (∀ x ∈ k, 0 ≤ x ∧ x ≤ c) → 0 ≤ dot r k ∧ dot r k ≤ r.length * (b * c)
  | [], k, _, _ => by rw [dot_nil]; simp
  | x :: r, [], _, _ => by
    rw [dot_nilr]
    exact ⟨Int.le_refl 0, Int.mul_nonneg (by omega) (Int.mul_nonneg hb hc)⟩
  | x :: r, y :: k, h1, h2 => by
    have ih := dot_bd hb hc (r := r) (k := k) (fun x hx => h1 x (List.mem_cons_of_mem _ hx)) (fun x hx => h2 x (List.mem_cons_of_mem _ hx))
    have hx := h1 x List.mem_cons_self
    have hy := h2 y List.mem_cons_self
    have m0 := Int.mul_nonneg hx.1 hy.1
    have m1 := Int.mul_le_mul hx.2 hy.2 hy.1 hb
    rw [dot_cons, List.length_cons]
    refine ⟨by omega, ?_⟩
    rw [show ((r.length + 1 : Nat) : Int) = (r.length : Int) + 1 by omega, Int.add_mul, Int.one_mul]
    omega
theorem colJ_ent {sg o : Nat} {b : Int} {G : List (List Int)} (h : Tab sg o b G) {j : Nat} (hj : j < o) : ∀ x ∈ colJ G j, 0 ≤ x ∧ x ≤ b := fun x hx => by
  obtain ⟨g, hg, rfl⟩ := List.mem_map.mp hx
  have hl := h.row g hg
  rw [List.getD_eq_getElem?_getD, List.getElem?_eq_getElem (by omega)]
  exact h.ent g hg _ (List.getElem_mem _)
theorem mulM_tab {st sg o : Nat} {b c : Int} (hb : 0 ≤ b) (hc : 0 ≤ c) {R G : List (List Int)} (h1 : Tab st sg b R) (h2 : Tab sg o c G) : Tab st o (sg * (b * c)) (mulM R G o) := by
  refine ⟨by unfold mulM; rw [List.length_map]; exact h1.len, fun r hr => ?_, fun r hr x hx => ?_⟩
  · obtain ⟨r', hr', rfl⟩ := List.mem_map.mp hr
    rw [List.length_map, List.length_range]
  · obtain ⟨r', hr', rfl⟩ := List.mem_map.mp hr
    obtain ⟨j, hj, rfl⟩ := List.mem_map.mp hx
    have d := dot_bd hb hc (h1.ent r' hr') (colJ_ent h2 (List.mem_range.mp hj))
    rw [h1.row r' hr'] at d
    exact d
theorem two_low {st sg o : Nat} {w h : Int} {R G : List (List Int)} (two : Two st sg o w R h G) : 1 ≤ w * h ∧ w * h ≤ 10 ^ 300 ∧ (mulM R G o).length ≤ 100 ∧ ∀ r ∈ mulM R G o, r.length ≤ 100 ∧ ∀ x ∈ r, 0 ≤ x := by
  have t := mulM_tab (by decide) (by decide) two.r two.g
  have a := Int.mul_le_mul two.w1 two.h1 (by decide) (by have := two.w1; omega)
  have b := Int.mul_le_mul two.w2 two.h2 (by have := two.h1; omega) (by decide)
  have s := two.st10
  have o3 := two.o30
  refine ⟨by omega, by omega, by rw [t.len]; omega, fun r hr => ⟨by rw [t.row r hr]; omega, fun x hx => (t.ent r hr x hx).1⟩⟩


/-! lots of numbers -/
theorem eraseIdx_mapR {α β : Type} (f : α → β) : ∀ (l : List α) (i : Nat), (l.map f).eraseIdx i = (l.eraseIdx i).map f
  | [], _ => rfl
  | x :: l, 0 => rfl
  | x :: l, i + 1 => by
    rw [List.map_cons, List.eraseIdx_cons_succ, List.eraseIdx_cons_succ, List.map_cons, eraseIdx_mapR f l i]
/-! rows by number -/
def rowA (R : List (List Int)) (i : Int) : List Int := R.getD i.toNat []
theorem rowA_mem {R : List (List Int)} {i : Int} (h0 : 0 ≤ i) (h1 : i < R.length) : rowA R i ∈ R := by
  unfold rowA
  rw [List.getD_eq_getElem?_getD, List.getElem?_eq_getElem (by omega), Option.getD_some]
  exact List.getElem_mem _
theorem rowsD_at {R : List (List Int)} {i : Int} (h0 : 0 ≤ i) (h1 : i < R.length) : atI (rowsD R) i = some (.tuple ((rowA R i).map .int)) := by
  obtain ⟨j, rfl⟩ := Int.eq_ofNat_of_zero_le h0
  refine atI_nat (n := j) rfl ?_
  unfold rowsD rowA
  rw [List.getElem?_map, List.getElem?_eq_getElem (by omega), Option.map_some, List.getD_eq_getElem?_getD]
  show _ = some (PyData.tuple (List.map PyData.int (R[(j : Int).toNat]?.getD [])))
  rw [show (j : Int).toNat = j from rfl, List.getElem?_eq_getElem (by omega), Option.getD_some]
theorem ints_at {r : List Int} {i : Int} (h0 : 0 ≤ i) (h1 : i < r.length) : atI (r.map PyData.int) i = some (PyData.int (r.getD i.toNat 0)) := by
  obtain ⟨j, rfl⟩ := Int.eq_ofNat_of_zero_le h0
  refine atI_nat (n := j) rfl ?_
  rw [List.getElem?_map, List.getElem?_eq_getElem (by omega), Option.map_some, List.getD_eq_getElem?_getD]
  rw [show (j : Int).toNat = j from rfl, List.getElem?_eq_getElem (by omega), Option.getD_some]
theorem enumD_map {α : Type} (g : α → PyData) (d0 : α) (r : List α) : enumD (r.map g) = (List.range r.length).map fun j : Nat => PyData.tuple [.int (j : Int), g (r.getD j d0)] := by
  have all : ∀ (r : List α) (i : Nat), enumF i (r.map g) = (List.range r.length).map fun j : Nat => PyData.tuple [.int ((i + j : Nat) : Int), g (r.getD j d0)] := by
    intro r
    induction r with
    | nil => exact fun _ => rfl
    | cons x r ih =>
      intro i
      rw [List.map_cons, List.length_cons, List.range_succ_eq_map, List.map_cons, List.map_map]
      show PyData.tuple [.int (i : Int), g x] :: enumF (i + 1) (r.map g) = _
      rw [ih]
      congr 1
      refine List.map_congr_left fun j _ => ?_
      show PyData.tuple [.int ((i + 1 + j : Nat) : Int), g (r.getD j d0)] = PyData.tuple [.int ((i + (j + 1) : Nat) : Int), g ((x :: r).getD (j + 1) d0)]
      rw [show i + 1 + j = i + (j + 1) from by omega]
      rfl
  rw [enumD_eq, all]
  exact List.map_congr_left fun j _ => by rw [Nat.zero_add]
theorem enumD_ints (r : List Int) : enumD (r.map .int) = (List.range r.length).map fun j : Nat => PyData.tuple [.int (j : Int), .int (r.getD j 0)] := enumD_map .int 0 r
theorem enumD_rows (R : List (List Int)) : enumD (rowsD R) = (List.range R.length).map fun j : Nat => PyData.tuple [.int (j : Int), .tuple ((R.getD j []).map .int)] := enumD_map (fun r : List Int => PyData.tuple (r.map .int)) [] R
/-- a loop, by the places -/
theorem forL_idx {α : Type} {mg : MG} {mb : MS} {k : Kt} (xs : List α) (g : α → PyData) (I : Nat → En → Prop) (h0 : ∀ e, I xs.length e → k.nx e)
    (hs : ∀ (j : Nat) (hj : j < xs.length) e (S : En → Prop), I j e → (∀ e', I (j + 1) e' → S e') → mg (.d (g xs[j])) e fun e1 => mb e1 { nx := S, rt := k.rt, bk := k.nx, ct := S }) (e : En) (h : I 0 e) : forL mg mb (xs.map g) e k := by
  refine forL_rec (fun ds e => ∃ j : Nat, j ≤ xs.length ∧ ds = (xs.drop j).map g ∧ I j e) ?_ ?_ _ _ ⟨0, Nat.zero_le _, by rw [List.drop_zero], h⟩
  · rintro e ⟨j, hj, hd, hi⟩
    have : (xs.drop j).length = 0 := by
      have := congrArg List.length hd
      rw [List.length_map] at this
      exact this.symm
    rw [List.length_drop] at this
    have e1 : j = xs.length := by omega
    subst e1
    exact h0 e hi
  · rintro d ds e R ⟨j, hj, hd, hi⟩ hR
    have hl : j < xs.length := by
      rcases Nat.lt_or_ge j xs.length with z | z
      · exact z
      · rw [List.drop_eq_nil_of_le z] at hd
        cases hd
    rw [List.drop_eq_getElem_cons hl, List.map_cons] at hd
    injection hd with h1 h2
    subst h1 h2
    exact hs j hl e R hi fun e' hi' => hR e' ⟨j + 1, hl, rfl, hi'⟩
/-! membership -/
theorem plain_ints (ns : List Int) : PyData.plainAll (ns.map .int) = true := plainAll_of fun d hd => by
  obtain ⟨i, _, rfl⟩ := List.mem_map.mp hd
  exact plain_int i
theorem inb_ints (k : Int) (ns : List Int) : InB (.int k) (ns.map .int) := ⟨plain_int k, plain_ints ns, by simp only [PyData.depth]; omega⟩
theorem any_ints (k : Int) (ns : List Int) : ((ns.map PyData.int).any fun z => z.eqv (.int k)) = decide (k ∈ ns) := by
  rw [List.any_map]
  refine Bool.eq_iff_iff.mpr ?_
  rw [List.any_eq_true, decide_eq_true_eq]
  constructor
  · rintro ⟨x, hx, h⟩
    have h : PyData.eqv (.int x) (.int k) = true := h
    rw [eqv_int] at h
    have := of_decide_eq_true h
    rw [← this]; exact hx
  · intro h
    refine ⟨k, h, ?_⟩
    show PyData.eqv (.int k) (.int k) = true
    rw [eqv_int]
    exact decide_eq_true rfl
theorem eqv_tupI (a b : List Int) : PyData.eqv (tupI a) (tupI b) = decide (a = b) := by
  have all : ∀ a b : List Int, PyData.eqvAll (a.map .int) (b.map .int) = decide (a = b) := by
    intro a
    induction a with
    | nil =>
      intro b
      cases b with
      | nil => simp [PyData.eqvAll]
      | cons y b => simp [PyData.eqvAll]
    | cons x a ih =>
      intro b
      cases b with
      | nil => simp [PyData.eqvAll]
      | cons y b =>
        rw [List.map_cons, List.map_cons, PyData.eqvAll, ih, eqv_int]
        refine Bool.eq_iff_iff.mpr ?_
        simp
  unfold tupI
  rw [PyData.eqv]
  exact all a b
theorem plain_tupI (k : List Int) : (tupI k).plain = true := plain_tup fun x hx => by
  obtain ⟨i, _, rfl⟩ := List.mem_map.mp hx
  exact plain_int i
theorem depth_tupI (k : List Int) : (tupI k).depth ≤ 1 := by
  have := depth_tups [k]
  unfold tupI at this ⊢
  simp only [List.map_cons, List.map_nil, PyData.depthAll] at this
  omega
theorem inb_tups (k : List Int) (ks : List (List Int)) : InB (tupI k) (ks.map tupI) := ⟨plain_tupI k, plainAll_of fun d hd => by
  obtain ⟨i, _, rfl⟩ := List.mem_map.mp hd
  exact plain_tupI i, by have := depth_tupI k; omega⟩
theorem any_tups (k : List Int) (ks : List (List Int)) : ((ks.map tupI).any fun z => z.eqv (tupI k)) = decide (k ∈ ks) := by
  rw [List.any_map]
  refine Bool.eq_iff_iff.mpr ?_
  rw [List.any_eq_true, decide_eq_true_eq]
  constructor
  · rintro ⟨x, hx, h⟩
    have h : PyData.eqv (tupI x) (tupI k) = true := h
    rw [eqv_tupI] at h
    have := of_decide_eq_true h
    rw [← this]; exact hx
  · intro h
    refine ⟨k, h, ?_⟩
    show PyData.eqv (tupI k) (tupI k) = true
    rw [eqv_tupI]
    exact decide_eq_true rfl
theorem leastOf_mem {ns : List Int} (h : ns ≠ []) : leastOf ns ∈ ns := by
  have all : ∀ (ns : List Int) (m : Int), ns.foldl min m = m ∨ ns.foldl min m ∈ ns := by
    intro ns
    induction ns with
    | nil => exact fun m => .inl rfl
    | cons n ns ih =>
      intro m
      rw [List.foldl_cons]
      rcases ih (min m n) with z | z
      · rw [z]
        rcases Int.le_total m n with q | q
        · exact .inl (Int.min_eq_left q)
        · rw [Int.min_eq_right q]; exact .inr List.mem_cons_self
      · exact .inr (List.mem_cons_of_mem _ z)
  cases ns with
  | nil => exact absurd rfl h
  | cons n ns =>
    rcases all ns n with z | z
    · show ns.foldl min n ∈ _
      rw [z]; exact List.mem_cons_self
    · exact List.mem_cons_of_mem _ z
/-! lots no two of which f tells of -/
structure Sub (f : Int → Int → Bool) (n : Nat) (l : List Int) : Prop where
  asc : l.Pairwise (· < ·)
  rng : ∀ x ∈ l, 0 ≤ x ∧ x < n
  free : l.Pairwise fun a b => f a b = false
theorem sub_nil (f : Int → Int → Bool) (n : Nat) : Sub f n [] := ⟨List.Pairwise.nil, fun _ h => (nomatch h), List.Pairwise.nil⟩
theorem sub_succ {f : Int → Int → Bool} {n : Nat} {l : List Int} : Sub f (n + 1) l ↔ Sub f n l ∨ ∃ l', l = l' ++ [(n : Int)] ∧ Sub f n l' ∧ ∀ a ∈ l', f a n = false := by
  constructor
  · intro h
    rcases List.eq_nil_or_concat l with rfl | ⟨l', x, hl⟩
    · exact .inl (sub_nil f n)
    · rw [List.concat_eq_append] at hl
      subst hl
      have ha := List.pairwise_append.mp h.asc
      have hf := List.pairwise_append.mp h.free
      have hx := h.rng x (by simp)
      have lt : ∀ a ∈ l', a < x := fun a m => ha.2.2 a m x (by simp)
      have rg : ∀ a ∈ l', 0 ≤ a ∧ a < n := fun a m => by
        have := h.rng a (List.mem_append_left _ m)
        have := lt a m
        omega
      by_cases e : x = (n : Int)
      · subst e
        exact .inr ⟨l', rfl, ⟨ha.1, rg, hf.1⟩, fun a m => hf.2.2 a m _ (by simp)⟩
      · refine .inl ⟨h.asc, fun a m => ?_, h.free⟩
        rcases List.mem_append.mp m with m | m
        · exact rg a m
        · rw [List.mem_singleton] at m
          omega
  · rintro (h | ⟨l', rfl, h, hf⟩)
    · exact ⟨h.asc, fun x m => by have := h.rng x m; omega, h.free⟩
    · refine ⟨List.pairwise_append.mpr ⟨h.asc, List.pairwise_singleton _ _, fun a m b hb => ?_⟩, fun x m => ?_, List.pairwise_append.mpr ⟨h.free, List.pairwise_singleton _ _, fun a m b hb => ?_⟩⟩
      · rw [List.mem_singleton] at hb
        have := h.rng a m
        omega
      · rcases List.mem_append.mp m with m | m
        · have := h.rng x m; omega
        · rw [List.mem_singleton] at m; omega
      · rw [List.mem_singleton] at hb
        rw [hb]
        exact hf a m
/-- all such lots -/
def sureL (f : Int → Int → Bool) : Nat → List (List Int)
  | 0 => [[]]
  | n + 1 => sureL f n ++ ((sureL f n).filter fun l => !l.any fun a => f a n).map (· ++ [(n : Int)])
theorem mem_sure {f : Int → Int → Bool} : ∀ {n : Nat} {l : List Int}, l ∈ sureL f n ↔ Sub f n l
  | 0, l => by
    unfold sureL
    rw [List.mem_singleton]
    constructor
    · rintro rfl; exact sub_nil f 0
    · intro h
      cases l with
      | nil => rfl
      | cons x l => have := h.rng x List.mem_cons_self; omega
  | n + 1, l => by
    rw [sub_succ]
    unfold sureL
    rw [List.mem_append, mem_sure, List.mem_map]
    constructor
    · rintro (h | ⟨l', h, rfl⟩)
      · exact .inl h
      · obtain ⟨h1, h2⟩ := List.mem_filter.mp h
        refine .inr ⟨l', rfl, mem_sure.mp h1, fun a m => ?_⟩
        cases hf : f a n with
        | false => rfl
        | true =>
          have : (l'.any fun a => f a n) = true := List.any_eq_true.mpr ⟨a, m, hf⟩
          rw [this] at h2
          cases h2
    · rintro (h | ⟨l', rfl, h, hf⟩)
      · exact .inl h
      · refine .inr ⟨l', List.mem_filter.mpr ⟨mem_sure.mpr h, ?_⟩, rfl⟩
        have : (l'.any fun a => f a n) = false := by
          rw [List.any_eq_false]
          intro a m
          rw [hf a m]
          decide
        rw [this]
        rfl
theorem sureL_len (f : Int → Int → Bool) : ∀ n : Nat, 1 ≤ (sureL f n).length ∧ (sureL f n).length ≤ 2 ^ n
  | 0 => by unfold sureL; exact ⟨Nat.le_refl 1, Nat.le_refl 1⟩
  | n + 1 => by
    have := sureL_len f n
    have h := List.length_filter_le (fun l : List Int => !l.any fun a => f a n) (sureL f n)
    unfold sureL
    rw [List.length_append, List.length_map, Nat.pow_succ]
    omega
theorem sub_len {f : Int → Int → Bool} : ∀ {n : Nat} {l : List Int}, Sub f n l → l.length ≤ n
  | 0, l, h => by
    cases l with
    | nil => exact Nat.le_refl 0
    | cons x l => have := h.rng x List.mem_cons_self; omega
  | n + 1, l, h => by
    rcases sub_succ.mp h with h | ⟨l', rfl, h, _⟩
    · have := sub_len h; omega
    · have := sub_len h
      rw [List.length_append, List.length_singleton]
      omega
/-! promises -/
def noF : Int → Int → Bool := fun _ _ => false
theorem lots_succ (j : Nat) : (sureL noF j).map tupI ++ (sureL noF j).map (fun l => tupI (l ++ [(j : Int)])) = (sureL noF (j + 1)).map tupI := by
  have ef : (sureL noF j).filter (fun l => !l.any fun a => noF a j) = sureL noF j := List.filter_eq_self.mpr fun l _ => by
    have : (l.any fun a => noF a j) = false := by
      rw [List.any_eq_false]
      intro a _
      unfold noF
      decide
    rw [this]
    rfl
  conv => rhs; unfold sureL
  rw [ef, List.map_append, List.map_map]
  rfl
def phLLots : Ph := fun us Q => ∃ n : Nat, us = [.d (.int n)] ∧ n ≤ 10 ∧ Q (.d (.list ((sureL noF n).map tupI)))
theorem phLLots_len {us : List U} {Q : U → Prop} (h : phLLots us Q) : us.length = 1 := by
  obtain ⟨b, rfl, _⟩ := h; rfl
theorem phLLots_mono : PhM phLLots := fun us Q Q' h ⟨y, a, b, q⟩ => ⟨y, a, b, h _ q⟩
theorem tm_lot {f : Int → Int → Bool} {n : Nat} {l : List Int} (h : Sub f n l) (n1 : n ≤ 10) : Tm (10 ^ 30) 110 1 (tupI l) := by
  have t := (tms_of (b := 10 ^ 30) (w := 10) (k := 0) (g := PyData.int) (ls := l) fun x hx => by
    have := h.rng x hx
    exact tm_int (by omega) (by omega) (Nat.lt_of_le_of_lt (show x.natAbs ≤ 1000 by omega) (by decide)) (by decide)).tup
  have := sub_len h
  exact t.le (Int.le_refl _) (by omega) (Nat.le_refl _)
theorem sh_lot {f : Int → Int → Bool} {n : Nat} {l : List Int} (h : Sub f n l) (n1 : n ≤ 10) : ShowsX (tupI l) := (tm_lot h n1).shows (by decide) (by decide) (by decide)

/-! worths and fractions, for comparisons -/
theorem gcd_pairW (a : Int) {b : Int} (h : 0 < b) : 0 < gcdL [a, b] ∧ gcdL [a, b] ≤ b := by
  have d : gcdL [a, b] ∣ b := gcdL_dvd (by simp)
  have n := gcdL_nn [a, b]
  refine ⟨?_, Int.le_of_dvd h d⟩
  rcases Int.lt_or_eq_of_le n with z | z
  · exact z
  · have := gcdL_zero z.symm b (by simp)
    omega
def fracA (a b : Int) : Int := a / gcdL [a, b]
def fracB (a b : Int) : Int := b / gcdL [a, b]
def fracW (a b : Int) : PyData := .tuple [.int (fracA a b), .int (fracB a b)]
theorem fracA_mul (a b : Int) : fracA a b * gcdL [a, b] = a := Int.ediv_mul_cancel (gcdL_dvd (by simp))
theorem fracB_mul (a b : Int) : fracB a b * gcdL [a, b] = b := Int.ediv_mul_cancel (gcdL_dvd (by simp))
theorem fracB_pos (a : Int) {b : Int} (h : 0 < b) : 0 < fracB a b ∧ fracB a b ≤ b := by
  have g := gcd_pairW a h
  have m := fracB_mul a b
  refine ⟨?_, Int.ediv_le_self _ (by omega)⟩
  rcases Int.lt_or_le 0 (fracB a b) with z | z
  · exact z
  · have := Int.mul_nonpos_of_nonpos_of_nonneg z (show 0 ≤ gcdL [a, b] by omega)
    omega
theorem gcdL_abs (a b : Int) : gcdL [a, b] = gcdF (a.natAbs : Int) b := by
  show gcdF (gcdF 0 a) b = _
  unfold gcdF
  rw [Int.gcd_zero_left]
/-- fractions are alike just when their cross products are -/
theorem frac_cross {a b c d : Int} (hb : 0 < b) (hd : 0 < d) : (fracA a b * fracB c d = fracA c d * fracB a b ↔ a * d = c * b) ∧ (fracA a b * fracB c d < fracA c d * fracB a b ↔ a * d < c * b) := by
  have g1 := (gcd_pairW a hb).1
  have g2 := (gcd_pairW c hd).1
  have e1 := fracA_mul a b
  have e2 := fracB_mul a b
  have e3 := fracA_mul c d
  have e4 := fracB_mul c d
  generalize gcdL [a, b] = g at *
  generalize gcdL [c, d] = k at *
  generalize fracA a b = p at *
  generalize fracB a b = q at *
  generalize fracA c d = r at *
  generalize fracB c d = s at *
  subst e1 e2 e3 e4
  have gk : 0 < g * k := Int.mul_pos g1 g2
  have x1 : p * g * (s * k) = p * s * (g * k) := by grind
  have x2 : r * k * (q * g) = r * q * (g * k) := by grind
  rw [x1, x2]
  constructor
  · exact ⟨fun h => by rw [h], fun h => Int.eq_of_mul_eq_mul_right (by omega) h⟩
  · exact ⟨fun h => Int.mul_lt_mul_of_pos_right h gk, fun h => Int.lt_of_mul_lt_mul_right h (by omega)⟩
def phFrac : Ph := fun us Q => ∃ a b : Int, us = [.d (.int a), .d (.int b)] ∧ 0 < b ∧ b ≤ 10 ^ 300 ∧ Q (.d (fracW a b))
theorem phFrac_len {us : List U} {Q : U → Prop} (h : phFrac us Q) : us.length = 2 := by
  obtain ⟨a, b, rfl, _⟩ := h; rfl
theorem phFrac_mono : PhM phFrac := fun us Q Q' h ⟨x, y, a, b, c, q⟩ => ⟨x, y, a, b, c, h _ q⟩
abbrev phFraction := phFrac
theorem phFraction_len {us : List U} {Q : U → Prop} (h : phFrac us Q) : us.length = 2 := phFrac_len h
theorem phFraction_mono : PhM phFrac := phFrac_mono
abbrev phLFraction := phFrac
theorem phLFraction_len {us : List U} {Q : U → Prop} (h : phFrac us Q) : us.length = 2 := phFrac_len h
theorem phLFraction_mono : PhM phFrac := phFrac_mono
/-- a decider -/
structure Dec (st : Nat) (dec : List (List Int)) : Prop where
  one : 1 ≤ dec.length
  six : dec.length ≤ 6
  row : ∀ c ∈ dec, c.length = st
def decD (dec : List (List Int)) : PyData := .tuple (rowsD dec)
def bestW (dec : List (List Int)) (col : List Int) : Int := bigOf (dec.map fun c => dot c col)
def totW (dec R : List (List Int)) (n : Nat) : Int := ((turn R n).map (bestW dec)).sum
def worthW (w : Int) (dec R : List (List Int)) (n : Nat) : PyData := fracW (totW dec R n) w
/-- a look of small numbers -/
structure Lo (st n : Nat) (w : Int) (R : List (List Int)) : Prop where
  tab : Tab st n 100000000 R
  w1 : 1 ≤ w
  w2 : w ≤ 100000000
  s1 : 1 ≤ st
  s6 : st ≤ 6
  n1 : 1 ≤ n
  n6 : n ≤ 6
def phWorthOf : Ph := fun us Q => ∃ (st n : Nat) (w : Int) (dec R : List (List Int)), us = [.d (lookD w R), .d (decD dec)] ∧ Dec st dec ∧ Lo st n w R ∧ Q (.d (worthW w dec R n))
theorem phWorthOf_len {us : List U} {Q : U → Prop} (h : phWorthOf us Q) : us.length = 2 := by
  obtain ⟨a, b, c, d, e, rfl, _⟩ := h; rfl
theorem phWorthOf_mono : PhM phWorthOf := fun us Q Q' h ⟨x, y, z, u, v, a, b, c, q⟩ => ⟨x, y, z, u, v, a, b, c, h _ q⟩
abbrev phLWorth := phWorthOf
theorem phLWorth_len {us : List U} {Q : U → Prop} (h : phWorthOf us Q) : us.length = 2 := phWorthOf_len h
theorem phLWorth_mono : PhM phWorthOf := phWorthOf_mono
/-! deciders judged -/
def isIn : PyData → Bool
  | .int _ => true
  | _ => false
theorem isIn_out {x : PyData} (h : isIn x = true) : ∃ w, x = .int w := by
  cases x with
  | int w => exact ⟨w, rfl⟩
  | _ => cases h
def chOk (st : Int) : PyData → Bool
  | .tuple xs => decide ((xs.length : Int) = st) && xs.all isIn
  | _ => false
def chsErr (st : Int) (ds : List PyData) : PyData := match findBad (chOk st) 0 ds with
  | some i => errAt "choice" i
  | none => .none
def decErrW (st : Int) : PyData → PyData
  | .tuple ds => if 1 ≤ ds.length ∧ ds.length ≤ 6 then chsErr st ds else .str "form"
  | _ => .str "form"
def phDecErr : Ph := fun us Q => ∃ (st : Int) (d : PyData), us = [.d (.int st), .d d] ∧ st ≤ 10 ∧ Q (.d (decErrW st d))
theorem phDecErr_len {us : List U} {Q : U → Prop} (h : phDecErr us Q) : us.length = 2 := by
  obtain ⟨a, b, rfl, _⟩ := h; rfl
theorem phDecErr_mono : PhM phDecErr := fun us Q Q' h ⟨x, y, a, b, q⟩ => ⟨x, y, a, b, h _ q⟩
abbrev phChoicesError := phDecErr
theorem phChoicesError_len {us : List U} {Q : U → Prop} (h : phDecErr us Q) : us.length = 2 := phDecErr_len h
theorem phChoicesError_mono : PhM phDecErr := phDecErr_mono
abbrev phLDeciderDue := phDecErr
theorem phLDeciderDue_len {us : List U} {Q : U → Prop} (h : phDecErr us Q) : us.length = 2 := phDecErr_len h
theorem phLDeciderDue_mono : PhM phDecErr := phDecErr_mono
theorem findBad_all {p : PyData → Bool} : ∀ {ds : List PyData} {i : Nat}, findBad p i ds = none → ∀ d ∈ ds, p d = true
  | d :: ds, i, h, x, hx => by
    cases hp : p d with
    | false => rw [findBad_here hp] at h; cases h
    | true =>
      rw [findBad_step hp] at h
      rcases List.mem_cons.mp hx with z | z
      · rw [z]; exact hp
      · exact findBad_all h x z
theorem dec_out {st : Nat} {d : PyData} (h : decErrW st d = .none) : ∃ dec, d = decD dec ∧ Dec st dec := by
  unfold decErrW at h
  split at h
  · rename_i ds
    split at h
    · rename_i hl
      unfold chsErr at h
      split at h
      · cases h
      · rename_i hf
        have all := findBad_all hf
        obtain ⟨rows, rfl, hr⟩ := rows_of (P := fun r => r.length = st) fun x hx => by
          have hx := all x hx
          unfold chOk at hx
          split at hx
          · rename_i xs
            rw [Bool.and_eq_true, decide_eq_true_eq, List.all_eq_true] at hx
            obtain ⟨ns, e, _⟩ := ints_of (P := fun _ => True) fun y hy => by
              obtain ⟨w, e⟩ := isIn_out (hx.2 y hy)
              exact ⟨w, e, trivial⟩
            subst e
            refine ⟨ns, rfl, ?_⟩
            have := hx.1
            rw [List.length_map] at this
            omega
          · cases hx
        rw [rowsD_len] at hl
        exact ⟨rows, rfl, hl.1, hl.2, hr⟩
    · cases h
  · cases h
def phLLess : Ph := fun us Q => ∃ a b c d : Int, us = [.d (.tuple [.int a, .int b]), .d (.tuple [.int c, .int d])] ∧ 0 ≤ b ∧ b < 2 ^ 63 ∧ 0 ≤ d ∧ d < 2 ^ 63 ∧ Q (.d (.bool (decide (a * d < c * b))))
theorem phLLess_len {us : List U} {Q : U → Prop} (h : phLLess us Q) : us.length = 2 := by
  obtain ⟨a, b, c, d, rfl, _⟩ := h; rfl
theorem phLLess_mono : PhM phLLess := fun us Q Q' h ⟨x, y, z, u, a, b, c, d, e, q⟩ => ⟨x, y, z, u, a, b, c, d, e, h _ q⟩
theorem Dec.ne {st : Nat} {dec : List (List Int)} (h : Dec st dec) : dec ≠ [] := fun z => by
  have := h.one
  rw [z, List.length_nil] at this
  omega
theorem colJ_len (R : List (List Int)) (j : Nat) : (colJ R j).length = R.length := by unfold colJ; rw [List.length_map]
/-! the comparison judged -/
/-- the rows that are not reached -/
def rowEq (w : Int) (v : Int) (r u : List Int) : Bool := decide (r.map (· * v) = u.map (· * w))
def reachAt (w v : Int) : Nat → List (List Int) → List (List Int) → Option Nat
  | _, [], _ => none
  | _, _, [] => none
  | i, r :: R, u :: V => if rowEq w v r u = true then reachAt w v (i + 1) R V else some i
def reachRows (w : Int) (R : List (List Int)) (v : Int) (V : List (List Int)) : PyData := match reachAt w v 0 R V with
  | some i => errAt "state" i
  | none => .none
/-- one garbled by G against another -/
def reachE (w : Int) (R : List (List Int)) (v : Int) (V : List (List Int)) (n : Nat) (h : Int) (G : List (List Int)) (o : Nat) : PyData :=
  if o = n then reachRows (lowW (w * h) (mulM R G o)) (lowR (w * h) (mulM R G o)) v V else .str "signs"
def phReached : Ph := fun us Q => ∃ (st sg o n : Nat) (w : Int) (R : List (List Int)) (v : Int) (V : List (List Int)) (h : Int) (G : List (List Int)), us = [.d (lookD w R), .d (lookD v V), .d (lookD h G)] ∧ Two st sg o w R h G ∧ Lo st n v V ∧ Q (.d (reachE w R v V n h G o))
theorem phReached_len {us : List U} {Q : U → Prop} (h : phReached us Q) : us.length = 3 := by
  obtain ⟨_, _, _, _, _, _, _, _, _, _, rfl, _⟩ := h; rfl
theorem phReached_mono : PhM phReached := fun us Q Q' h ⟨a, b, c, d, e, f, g, i, j, k, l, m, n, q⟩ => ⟨a, b, c, d, e, f, g, i, j, k, l, m, n, h _ q⟩
abbrev phReachedError := phReached
theorem phReachedError_len {us : List U} {Q : U → Prop} (h : phReached us Q) : us.length = 3 := phReached_len h
theorem phReachedError_mono : PhM phReached := phReached_mono
theorem eqvA_ints : ∀ (a b : List Int), PyData.eqvAll (a.map .int) (b.map .int) = decide (a = b)
  | [], [] => by simp [PyData.eqvAll]
  | [], _ :: _ => by simp [PyData.eqvAll]
  | _ :: _, [] => by simp [PyData.eqvAll]
  | x :: a, y :: b => by
    rw [List.map_cons, List.map_cons]
    simp only [PyData.eqvAll, eqv_int, eqvA_ints a b]
    by_cases h1 : x = y
    · by_cases h2 : a = b
      · subst h1 h2; simp
      · simp [h1, h2]
    · simp [h1]
theorem eqv_intsL (a b : List Int) : PyData.eqv (.list (a.map .int)) (.list (b.map .int)) = decide (a = b) := by
  rw [← eqvA_ints]
  simp only [PyData.eqv]
theorem ints_depth : ∀ (a : List Int), PyData.depthAll (a.map .int) = 0
  | [] => by simp only [List.map_nil, PyData.depthAll]
  | x :: a => by simp only [List.map_cons, PyData.depthAll, PyData.depth, ints_depth a]; rfl
theorem ints_plain (a : List Int) : PyData.plainAll (a.map .int) = true := by
  induction a with
  | nil => simp only [List.map_nil, PyData.plainAll]
  | cons x a ih => simp only [List.map_cons, PyData.plainAll, PyData.plain, ih]; rfl
theorem eqb_intsL (a b : List Int) : EqB (.list (a.map .int)) (.list (b.map .int)) := by
  refine ⟨?_, ?_, ?_⟩
  · simp only [PyData.plain, ints_plain]
  · simp only [PyData.plain, ints_plain]
  · simp only [PyData.depth, ints_depth]; decide
/-- the gaps between two looks of one shape -/
def gapT (w v : Int) (r u : List Int) : Int := ((r.zip u).map fun p => (((p.1 * v - p.2 * w).natAbs : Nat) : Int)).sum
def phLGaps : Ph := fun us Q => ∃ (st n : Nat) (w : Int) (R : List (List Int)) (v : Int) (V : List (List Int)), us = [.d (lookD w R), .d (lookD v V)] ∧ Tab st n (10 ^ 110) R ∧ 1 ≤ w ∧ w ≤ 10 ^ 110 ∧ Lo st n v V ∧ Q (.d (.tuple ((R.zip V).map fun p => fracW (gapT w v p.1 p.2) (2 * w * v))))
theorem phLGaps_len {us : List U} {Q : U → Prop} (h : phLGaps us Q) : us.length = 2 := by
  obtain ⟨_, _, _, _, _, _, rfl, _⟩ := h; rfl
theorem phLGaps_mono : PhM phLGaps := fun us Q Q' h ⟨a, b, c, d, e, f, g, i, j, k, l, q⟩ => ⟨a, b, c, d, e, f, g, i, j, k, l, h _ q⟩
def rowI : PyData → List Int
  | .tuple xs => (intsOf xs).getD []
  | _ => []
theorem rowsI (G : List (List Int)) : (rowsD G).map rowI = G := by
  unfold rowsD
  rw [List.map_map]
  refine (List.map_congr_left fun r _ => ?_).trans (List.map_id' G)
  show (intsOf (r.map .int)).getD [] = r
  rw [intsOf_map]
  rfl
def cmpD (w : Int) (R : List (List Int)) (n : Nat) (v : Int) (V : List (List Int)) (m : Nat) (dec : List (List Int)) : PyData :=
  if totW dec V m * w = totW dec R n * v then .str "same" else if totW dec R n * v < totW dec V m * w then .none else .str "less"
def gPart (w : Int) (R : List (List Int)) (v : Int) (V : List (List Int)) (m : Nat) : PyData → PyData
  | .tuple [.int h, .tuple rows] => reachE w R v V m h (rows.map rowI) (lenT (rows.headD .none))
  | _ => .none
def dPart (w : Int) (R : List (List Int)) (n : Nat) (v : Int) (V : List (List Int)) (m : Nat) : PyData → PyData
  | .tuple rows => cmpD w R n v V m (rows.map rowI)
  | _ => .none
def cmpErr (st n : Nat) (w : Int) (R : List (List Int)) (m : Nat) (v : Int) (V : List (List Int)) : PyData → PyData
  | .tuple [.str s, p] => if s = "garbling" then (if isNone (gErr n p) = true then gPart w R v V m p else .tuple [.str "garbling", gErr n p])
    else if s = "decider" then (if isNone (decErrW st p) = true then dPart w R n v V m p else .tuple [.str "decider", decErrW st p]) else .str "form"
  | _ => .str "form"
def phCompared : Ph := fun us Q => ∃ (st n m : Nat) (w : Int) (R : List (List Int)) (v : Int) (V : List (List Int)) (d : PyData), us = [.d (lookD w R), .d (lookD v V), .d d] ∧ Lo st n w R ∧ Lo st m v V ∧ ((lf (10 ^ 60) d = true ∧ d.depth ≤ 10) ∨ d = .dict []) ∧ Q (.d (cmpErr st n w R m v V d))
theorem phCompared_len {us : List U} {Q : U → Prop} (h : phCompared us Q) : us.length = 3 := by
  obtain ⟨_, _, _, _, _, _, _, _, rfl, _⟩ := h; rfl
theorem phCompared_mono : PhM phCompared := fun us Q Q' h ⟨a, b, c, d, e, f, g, i, j, k, l, m, q⟩ => ⟨a, b, c, d, e, f, g, i, j, k, l, m, h _ q⟩
abbrev phComparedError := phCompared
theorem phComparedError_len {us : List U} {Q : U → Prop} (h : phCompared us Q) : us.length = 3 := phCompared_len h
theorem phComparedError_mono : PhM phCompared := phCompared_mono
abbrev phLComparedDue := phCompared
theorem phLComparedDue_len {us : List U} {Q : U → Prop} (h : phCompared us Q) : us.length = 3 := phCompared_len h
theorem phLComparedDue_mono : PhM phCompared := phCompared_mono
theorem lf_intB {b i : Int} (h : lf b (.int i) = true) : -b ≤ i ∧ i ≤ b := by
  simp only [lf, Bool.and_eq_true, decide_eq_true_eq] at h
  exact h
theorem lf_tup {b : Int} {xs : List PyData} (h : lf b (.tuple xs) = true) : ∀ x ∈ xs, lf b x = true := by
  simp only [lf] at h
  exact lfAll_iff.mp h
theorem noneD {d : PyData} (h : isNone d = true) : d = .none := by
  cases d with
  | none => rfl
  | _ => cases h
/-- a garbling that is well -/
theorem gErr_out {n : Nat} {d : PyData} (h : isNone (gErr (n : Int) d) = true) (hl : lf (10 ^ 60) d = true) : ∃ (w : Int) (G : List (List Int)) (o : Nat), d = lookD w G ∧ 1 ≤ w ∧ w ≤ 10 ^ 60 ∧ Tab n o (10 ^ 60) G ∧ (1 ≤ n → 1 ≤ o ∧ o ≤ 6) ∧ (1 ≤ n → lenT ((rowsD G).headD .none) = o) := by
  replace h := noneD h
  unfold gErr at h
  split at h
  · rename_i w rows
    split at h
    · rename_i hw
      unfold gRows at h
      split at h
      · cases h
      · rename_i hf
        have all := findBad_all hf
        have l1 := lf_tup hl (.int w) (by simp)
        have l2 := lf_tup (lf_tup hl (.tuple rows) (by simp))
        obtain ⟨G, eG, hG⟩ := rows_of (P := fun r => r.length = lenT (rows.headD .none) ∧ (1 ≤ r.length ∧ r.length ≤ 6) ∧ ∀ x ∈ r, 0 ≤ x ∧ x ≤ 10 ^ 60) fun x hx => by
          have hg := all x hx
          have hp := gRow_part hg
          obtain ⟨ys, rfl, y1, y6, hy⟩ := isPartD_out hp
          obtain ⟨ns, e, _⟩ := ints_of (P := fun _ => True) fun y hm => by
            obtain ⟨w, e, _⟩ := isWh_out (hy y hm)
            exact ⟨w, e, trivial⟩
          subst e
          refine ⟨ns, rfl, ?_, ⟨?_, ?_⟩, fun z hz => ?_⟩
          · unfold gRow at hg
            rw [Bool.and_eq_true, decide_eq_true_eq] at hg
            have e0 : lenT (.tuple (ns.map .int)) = ns.length := by
              show (ns.map PyData.int).length = _
              rw [List.length_map]
            rw [← e0]
            exact hg.2
          · rw [List.length_map] at y1; exact y1
          · rw [List.length_map] at y6; exact y6
          · have hm : PyData.int z ∈ ns.map PyData.int := List.mem_map.mpr ⟨z, hz, rfl⟩
            have h0 := hy _ hm
            simp only [isWh, decide_eq_true_eq] at h0
            exact ⟨h0, (lf_intB (lf_tup (l2 _ hx) _ hm)).2⟩
        subst eG
        have gl : G.length = n := by
          have := hw.2
          rw [rowsD_len] at this
          omega
        refine ⟨w, G, lenT ((rowsD G).headD .none), rfl, hw.1, (lf_intB l1).2, ⟨gl, fun r hr => (hG r hr).1, fun r hr => (hG r hr).2.2⟩, fun n1 => ?_, fun _ => rfl⟩
        cases G with
        | nil => rw [List.length_nil] at gl; omega
        | cons g G =>
          have h := hG g List.mem_cons_self
          have e : lenT ((rowsD (g :: G)).headD .none) = g.length := by
            show (List.map PyData.int g).length = _
            rw [List.length_map]
          rw [e]
          exact h.2.1
    · cases h
  · cases h
theorem Lo.head {st n : Nat} {w : Int} {R : List (List Int)} (lo : Lo st n w R) : ∃ r0 : List Int, (rowsD R)[0]? = some (.tuple (r0.map .int)) ∧ r0.length = n := by
  have s1 := lo.s1
  have tl := lo.tab.len
  refine ⟨R[0]'(by omega), ?_, lo.tab.row _ (List.getElem_mem _)⟩
  unfold rowsD
  rw [List.getElem?_map, List.getElem?_eq_getElem (by omega)]
  rfl
theorem Lo.two {st n o : Nat} {w h : Int} {R G : List (List Int)} (lo : Lo st n w R) (h1 : 1 ≤ h) (h2 : h ≤ 10 ^ 60) (t : Tab n o (10 ^ 60) G) (o6 : o ≤ 6) : Two st n o w R h G :=
  ⟨lo.tab, t.le (by decide), lo.w1, lo.w2, h1, by omega, by have := lo.s6; omega, lo.n1, by have := lo.n6; omega, by omega⟩
theorem frac_scale {a b t : Int} (ht : 0 < t) : fracA (a * t) (b * t) = fracA a b ∧ fracB (a * t) (b * t) = fracB a b := by
  have e : gcdL [a * t, b * t] = gcdL [a, b] * t := by
    have h := gcdL_mul (c := t) (by omega) [a, b]
    rw [List.map_cons, List.map_cons, List.map_nil, Int.mul_comm t a, Int.mul_comm t b] at h
    rw [h, Int.mul_comm]
  unfold fracA fracB
  rw [e]
  exact ⟨Int.mul_ediv_mul_of_pos_left _ _ ht, Int.mul_ediv_mul_of_pos_left _ _ ht⟩
theorem frac_same {a b c d : Int} (hb : 0 < b) (hd : 0 < d) : (fracA a b = fracA c d ∧ fracB a b = fracB c d) ↔ a * d = c * b := by
  constructor
  · intro h
    exact (frac_cross hb hd).1.mp (by rw [h.1, h.2])
  · intro h
    have h1 := frac_scale (a := a) (b := b) hd
    have h2 := frac_scale (a := c) (b := d) hb
    rw [h, Int.mul_comm b d] at h1
    exact ⟨h1.1.symm.trans h2.1, h1.2.symm.trans h2.2⟩
theorem eqv_pair (a b c d : Int) : PyData.eqv (.tuple [.int a, .int b]) (.tuple [.int c, .int d]) = (decide (a = c) && decide (b = d)) := by
  have h := eqvA_ints [a, b] [c, d]
  have e : PyData.eqv (.tuple [.int a, .int b]) (.tuple [.int c, .int d]) = PyData.eqvAll ([a, b].map .int) ([c, d].map .int) := by simp only [PyData.eqv, List.map_cons, List.map_nil]
  rw [e, h, ← Bool.decide_and]
  exact decide_eq_decide.mpr ⟨fun h => by injection h with h1 h2; injection h2 with h2 _; exact ⟨h1, h2⟩, fun h => by rw [h.1, h.2]⟩
theorem eqb_pair (a b c d : Int) : EqB (.tuple [.int a, .int b]) (.tuple [.int c, .int d]) := by
  refine ⟨?_, ?_, ?_⟩
  · simp only [PyData.plain, PyData.plainAll, Bool.and_self]
  · simp only [PyData.plain, PyData.plainAll, Bool.and_self]
  · simp only [PyData.depth, PyData.depthAll]; omega
theorem frac_zero {t b : Int} (hb : 0 < b) : PyData.eqv (fracW t b) (.tuple [.int 0, .int 1]) = decide (t = 0) := by
  unfold fracW
  rw [eqv_pair]
  have h := frac_same (a := t) (b := b) (c := 0) (d := 1) hb (by decide)
  have z : fracA 0 1 = 0 ∧ fracB 0 1 = 1 := by decide
  rw [z.1, z.2, Int.mul_one, Int.zero_mul] at h
  rw [← Bool.decide_and]
  exact decide_eq_decide.mpr h
theorem gap_zero (x v : Int) : ∀ {r u : List Int}, r.length = u.length → 0 ≤ gapT x v r u ∧ (gapT x v r u = 0 ↔ r.map (· * v) = u.map (· * x))
  | [], [], _ => ⟨Int.le_refl 0, by simp [gapT]⟩
  | [], _ :: _, h => by simp at h
  | _ :: _, [], h => by simp at h
  | a :: r, b :: u, h => by
    have ih := gap_zero x v (r := r) (u := u) (by simpa using h)
    have e : gapT x v (a :: r) (b :: u) = (((a * v - b * x).natAbs : Nat) : Int) + gapT x v r u := by
      unfold gapT
      rw [List.zip_cons_cons, List.map_cons, List.sum_cons]
    rw [e, List.map_cons, List.map_cons]
    refine ⟨by omega, ?_⟩
    constructor
    · intro h
      have h1 : a * v = b * x := by omega
      have h2 : gapT x v r u = 0 := by omega
      rw [h1, ih.2.mp h2]
    · intro h
      injection h with h1 h2
      have := ih.2.mpr h2
      have h1 : a * v = b * x := h1
      omega
/-- the states whose gap is not nought -/
def gapP : PyData → Bool
  | .tuple [_, g] => !PyData.eqv g (.tuple [.int 0, .int 1])
  | _ => false
def gapF : PyData → PyData
  | .tuple [i, _] => i
  | _ => .none
theorem gaps_reach {x v : Int} {m : Nat} (hxv : 0 < 2 * x * v) : ∀ {M V : List (List Int)} (i : Nat), (∀ r ∈ M, r.length = m) → (∀ u ∈ V, u.length = m) → (match reachAt x v i M V with
    | none => ((enumF i ((M.zip V).map fun p => fracW (gapT x v p.1 p.2) (2 * x * v))).filter gapP).map gapF = []
    | some j => ∃ tl, ((enumF i ((M.zip V).map fun p => fracW (gapT x v p.1 p.2) (2 * x * v))).filter gapP).map gapF = .int (j : Int) :: tl)
  | [], V, i, _, _ => rfl
  | r :: M, [], i, _, _ => rfl
  | r :: M, u :: V, i, h1, h2 => by
    have ih := gaps_reach hxv (M := M) (V := V) (i + 1) (fun r hr => h1 r (List.mem_cons_of_mem _ hr)) (fun u hu => h2 u (List.mem_cons_of_mem _ hu))
    have gz := (gap_zero x v (r := r) (u := u) ((h1 r List.mem_cons_self).trans (h2 u List.mem_cons_self).symm)).2
    have es : enumF i (((r :: M).zip (u :: V)).map fun p => fracW (gapT x v p.1 p.2) (2 * x * v)) = .tuple [.int (i : Int), fracW (gapT x v r u) (2 * x * v)] :: enumF (i + 1) ((M.zip V).map fun p => fracW (gapT x v p.1 p.2) (2 * x * v)) := rfl
    rw [es]
    have ep : gapP (.tuple [.int (i : Int), fracW (gapT x v r u) (2 * x * v)]) = !decide (gapT x v r u = 0) := by
      show (!PyData.eqv _ _) = _
      rw [frac_zero hxv]
    by_cases hq : r.map (· * v) = u.map (· * x)
    · have hr : reachAt x v i (r :: M) (u :: V) = reachAt x v (i + 1) M V := if_pos (decide_eq_true hq)
      rw [hr, List.filter_cons_of_neg (by rw [ep, decide_eq_true (gz.mpr hq)]; decide)]
      exact ih
    · have hr : reachAt x v i (r :: M) (u :: V) = some i := if_neg (by unfold rowEq; rw [decide_eq_false hq]; decide)
      rw [hr, List.filter_cons_of_pos (by rw [ep, decide_eq_false (fun z => hq (gz.mp z))]; rfl)]
      exact ⟨_, rfl⟩
theorem enumF_mem : ∀ {gs : List PyData} {i : Nat} {d : PyData}, d ∈ enumF i gs → ∃ (k : Nat) (g : PyData), d = .tuple [.int (k : Int), g] ∧ g ∈ gs
  | g :: gs, i, d, h => by
    have h : d ∈ PyData.tuple [.int (i : Int), g] :: enumF (i + 1) gs := h
    rcases List.mem_cons.mp h with z | z
    · exact ⟨i, g, z, List.mem_cons_self⟩
    · obtain ⟨k, g', e, hg⟩ := enumF_mem z
      exact ⟨k, g', e, List.mem_cons_of_mem _ hg⟩
def phLDecider : Ph := fun us Q => ∃ st most : Int, us = [.pot, .d (.int st), .d (.int most)] ∧ 1 ≤ st ∧ st ≤ 6 ∧ 1 ≤ most ∧ most ≤ 6 ∧ ∀ dec, Dec st.toNat dec → (∀ c ∈ dec, ∀ x ∈ c, -1000 ≤ x ∧ x ≤ 1000) → Q (.d (decD dec))
theorem phLDecider_len {us : List U} {Q : U → Prop} (h : phLDecider us Q) : us.length = 3 := by
  obtain ⟨a, b, rfl, _⟩ := h; rfl
theorem phLDecider_mono : PhM phLDecider := fun us Q Q' h ⟨x, y, a, b, c, d, e, q⟩ => ⟨x, y, a, b, c, d, e, fun dec h1 h2 => h _ (q dec h1 h2)⟩
def phLPair : Ph := fun us Q => ∃ cells : Int, us = [.pot, .d (.int cells)] ∧ 4 ≤ cells ∧ cells < 2 ^ 60 ∧ ∀ (st n m : Nat) (w : Int) (R : List (List Int)) (v : Int) (V : List (List Int)), st ≤ 4 → n ≤ 4 → m ≤ 4 → w ≤ 60 → v ≤ 60 → Lo st n w R → Lo st m v V → Tab st n 60 R → Tab st m 21600 V → Q (.d (.tuple [lookD w R, lookD v V]))
theorem phLPair_len {us : List U} {Q : U → Prop} (h : phLPair us Q) : us.length = 2 := by
  obtain ⟨a, rfl, _⟩ := h; rfl
theorem phLPair_mono : PhM phLPair := fun us Q Q' h ⟨x, a, b, c, q⟩ => ⟨x, a, b, c, fun st n m w R v V h1 h2 h3 h4 h5 h6 h7 h8 h9 => h _ (q st n m w R v V h1 h2 h3 h4 h5 h6 h7 h8 h9)⟩

/-! k18: distances of looks -/
structure Dl (st n : Nat) (w : Int) (A : List (List Int)) : Prop where
  lk : IsLook w st n A
  w1 : 1 ≤ w
  w2 : w ≤ 60
  s1 : 1 ≤ st
  s4 : st ≤ 4
  n1 : 1 ≤ n
  n6 : n ≤ 6
theorem Dl.tab {st n : Nat} {w : Int} {A : List (List Int)} (h : Dl st n w A) : Tab st n 60 A := (tab_of h.lk).le h.w2
theorem Dl.lo {st n : Nat} {w : Int} {A : List (List Int)} (h : Dl st n w A) : Lo st n w A := ⟨h.tab.le (by decide), h.w1, by have := h.w2; omega, h.s1, by have := h.s4; omega, h.n1, h.n6⟩
def distD (w : Int) (A : List (List Int)) (v : Int) (B : List (List Int)) : PyData := .tuple ((A.zip B).map fun p => fracW (gapT w v p.1 p.2) (2 * w * v))
def phDistances : PhX := fun us Q R => ∃ (st n m : Nat) (w : Int) (A : List (List Int)) (v : Int) (B : List (List Int)), us = [.d (lookD w A), .d (lookD v B)] ∧ Dl st n w A ∧ Dl st m v B ∧ (n = m → Q (.d (distD w A v B))) ∧ (n ≠ m → R ⟨"Unfit", []⟩)
theorem phDistances_len {us : List U} {Q : U → Prop} {R : Xn → Prop} (h : phDistances us Q R) : us.length = 2 := by
  obtain ⟨_, _, _, _, _, _, _, rfl, _⟩ := h; rfl
theorem phDistances_mono : PhXM phDistances := fun us Q Q' R R' h h' ⟨a, b, c, d, e, f, g, i, j, k, q, r⟩ => ⟨a, b, c, d, e, f, g, i, j, k, fun t => h _ (q t), fun t => h' _ (r t)⟩
theorem phDistances_nop : ∀ us Q R, phDistances us Q R → ∀ u ∈ us, u ≠ .pot := fun us Q R ⟨_, _, _, _, _, _, _, a, _⟩ u hu => by
  subst a
  simp only [List.mem_cons, List.not_mem_nil, or_false] at hu
  rcases hu with rfl | rfl <;> exact fun z => nomatch z
def toldD (d : PyData) : PyData := .list [.str "told", d]
def unfitD : PyData := .list [.str "unfit", .bool true]
def phLAsked : Ph := fun us Q => ∃ (st n m : Nat) (w : Int) (A : List (List Int)) (v : Int) (B : List (List Int)) (nb : Bool), us = [.d (lookD w A), .d (lookD v B), .d (.bool nb)] ∧ Dl st n w A ∧ Dl st m v B ∧ (n = m → Q (.d (toldD (distD w A v B)))) ∧ (n ≠ m → Q (.d unfitD))
theorem phLAsked_len {us : List U} {Q : U → Prop} (h : phLAsked us Q) : us.length = 3 := by
  obtain ⟨_, _, _, _, _, _, _, _, rfl, _⟩ := h; rfl
theorem phLAsked_mono : PhM phLAsked := fun us Q Q' h ⟨a, b, c, d, e, f, g, i, j, k, l, q, r⟩ => ⟨a, b, c, d, e, f, g, i, j, k, l, fun t => h _ (q t), fun t => h _ (r t)⟩
/-! the law's -/
theorem gapT_comm (w v : Int) : ∀ (r u : List Int), gapT w v r u = gapT v w u r
  | [], [] => rfl
  | [], _ :: _ => rfl
  | _ :: _, [] => rfl
  | x :: r, y :: u => by
    have ih := gapT_comm w v r u
    unfold gapT at ih ⊢
    rw [List.zip_cons_cons, List.zip_cons_cons, List.map_cons, List.map_cons, List.sum_cons, List.sum_cons, ih]
    have e : (x * v - y * w).natAbs = (y * w - x * v).natAbs := by omega
    rw [e]
theorem zip_swap {α β γ : Type} (f : α → β → γ) : ∀ (as : List α) (bs : List β), (as.zip bs).map (fun p => f p.1 p.2) = (bs.zip as).map fun p => f p.2 p.1
  | [], [] => rfl
  | [], _ :: _ => rfl
  | _ :: _, [] => rfl
  | a :: as, b :: bs => by rw [List.zip_cons_cons, List.zip_cons_cons, List.map_cons, List.map_cons, zip_swap f as bs]
theorem distD_comm (w : Int) (A : List (List Int)) (v : Int) (B : List (List Int)) : distD w A v B = distD v B w A := by
  unfold distD
  have h := zip_swap (fun r u => fracW (gapT w v r u) (2 * w * v)) A B
  have e : (fun p : List Int × List Int => fracW (gapT w v p.2 p.1) (2 * w * v)) = fun p => fracW (gapT v w p.1 p.2) (2 * v * w) := by
    funext p
    rw [gapT_comm, show 2 * w * v = 2 * v * w from Int.mul_right_comm 2 w v]
  rw [e] at h
  exact congrArg PyData.tuple h
theorem tri_one (w v u x y z : Int) (w0 : 0 ≤ w) (v0 : 0 ≤ v) (u0 : 0 ≤ u) : (((x * u - z * w).natAbs : Nat) : Int) * v ≤ (((x * v - y * w).natAbs : Nat) : Int) * u + (((y * u - z * v).natAbs : Nat) : Int) * w := by
  obtain ⟨a, rfl⟩ := Int.eq_ofNat_of_zero_le w0
  obtain ⟨b, rfl⟩ := Int.eq_ofNat_of_zero_le v0
  obtain ⟨c, rfl⟩ := Int.eq_ofNat_of_zero_le u0
  have e : (x * c - z * a) * b = (x * b - y * a) * c + (y * c - z * b) * a := by grind
  have h1 : ((x * (c : Int) - z * a) * b).natAbs = (x * (c : Int) - z * a).natAbs * b := Int.natAbs_mul _ _
  have h2 : ((x * (b : Int) - y * a) * c).natAbs = (x * (b : Int) - y * a).natAbs * c := Int.natAbs_mul _ _
  have h3 : ((y * (c : Int) - z * b) * a).natAbs = (y * (c : Int) - z * b).natAbs * a := Int.natAbs_mul _ _
  have h4 := Int.natAbs_add_le ((x * (b : Int) - y * a) * c) ((y * (c : Int) - z * b) * a)
  rw [← e, h1, h2, h3] at h4
  exact_mod_cast h4
theorem tri_gap {w v u : Int} (w0 : 0 ≤ w) (v0 : 0 ≤ v) (u0 : 0 ≤ u) : ∀ {r s t : List Int}, r.length = s.length → s.length = t.length → gapT w u r t * v ≤ gapT w v r s * u + gapT v u s t * w
  | [], [], [], _, _ => by
    show (0 : Int) * v ≤ 0 * u + 0 * w
    omega
  | x :: r, y :: s, z :: t, h1, h2 => by
    have ih := tri_gap w0 v0 u0 (r := r) (s := s) (t := t) (by simpa using h1) (by simpa using h2)
    have one := tri_one w v u x y z w0 v0 u0
    unfold gapT at ih ⊢
    simp only [List.zip_cons_cons, List.map_cons, List.sum_cons, Int.add_mul]
    omega
  | [], _ :: _, _, h, _ => by simp at h
  | _ :: _, [], _, h, _ => by simp at h
  | _, [], _ :: _, _, h => by simp at h
  | _, _ :: _, [], _, h => by simp at h
/-- no more than by a third one -/
theorem tri_frac {w v u g12 g23 g13 : Int} (w0 : 0 < w) (v0 : 0 < v) (u0 : 0 < u) (h : g13 * v ≤ g12 * u + g23 * w) :
    let X := fracA g12 (2 * w * v) * fracB g23 (2 * v * u) + fracA g23 (2 * v * u) * fracB g12 (2 * w * v)
    let Y := fracB g12 (2 * w * v) * fracB g23 (2 * v * u)
    ¬ (fracA X Y * fracB g13 (2 * w * u) < fracA g13 (2 * w * u) * fracB X Y) := by
  have p1 : 0 < 2 * w * v := Int.mul_pos (by omega) v0
  have p2 : 0 < 2 * v * u := Int.mul_pos (by omega) u0
  have p3 : 0 < 2 * w * u := Int.mul_pos (by omega) u0
  have b1 := (fracB_pos g12 p1).1
  have b2 := (fracB_pos g23 p2).1
  intro X Y
  rw [(frac_cross (a := X) (c := g13) (Int.mul_pos b1 b2) p3).2]
  have c1 := (gcd_pairW g12 p1).1
  have c2 := (gcd_pairW g23 p2).1
  have e1 := fracA_mul g12 (2 * w * v)
  have e2 := fracB_mul g12 (2 * w * v)
  have e3 := fracA_mul g23 (2 * v * u)
  have e4 := fracB_mul g23 (2 * v * u)
  show ¬ (fracA g12 (2 * w * v) * fracB g23 (2 * v * u) + fracA g23 (2 * v * u) * fracB g12 (2 * w * v)) * (2 * w * u) < g13 * (fracB g12 (2 * w * v) * fracB g23 (2 * v * u))
  generalize fracA g12 (2 * w * v) = na at *
  generalize fracB g12 (2 * w * v) = nb at *
  generalize fracA g23 (2 * v * u) = ma at *
  generalize fracB g23 (2 * v * u) = mb at *
  generalize gcdL [g12, 2 * w * v] = k1 at *
  generalize gcdL [g23, 2 * v * u] = k2 at *
  intro hlt
  have kk : 0 < k1 * k2 := Int.mul_pos c1 c2
  have hm := Int.mul_lt_mul_of_pos_right hlt kk
  have l1 : (na * mb + ma * nb) * (2 * w * u) * (k1 * k2) = (g12 * (2 * v * u) + g23 * (2 * w * v)) * (2 * w * u) := by grind
  have l2 : g13 * (nb * mb) * (k1 * k2) = g13 * ((2 * w * v) * (2 * v * u)) := by grind
  rw [l1, l2] at hm
  have q : 0 ≤ 4 * w * u * v := Int.le_of_lt (Int.mul_pos (Int.mul_pos (by omega) u0) v0)
  have hq := Int.mul_le_mul_of_nonneg_left h q
  have l3 : 4 * w * u * v * (g13 * v) = g13 * ((2 * w * v) * (2 * v * u)) := by grind
  have l4 : 4 * w * u * v * (g12 * u + g23 * w) = (g12 * (2 * v * u) + g23 * (2 * w * v)) * (2 * w * u) := by grind
  rw [l3, l4] at hq
  omega
/-- a look in lowest terms, times a number -/
theorem low_look {w t : Int} {st n : Nat} {A : List (List Int)} (w1 : 1 ≤ w) (t1 : 1 ≤ t) (lk : IsLook w st n A) : IsLook (lowW w A * t) st n (scaleM t (lowR w A)) := by
  have g := gW_pos (R := A) w1
  refine ⟨by unfold scaleM lowR; rw [List.length_map, List.length_map]; exact lk.len, fun r hr => ?_⟩
  obtain ⟨r1, h1, rfl⟩ := List.mem_map.mp hr
  obtain ⟨r2, h2, rfl⟩ := List.mem_map.mp h1
  have p := lk.each r2 h2
  have hs : (r2.map (· / gW w A)).sum = lowW w A := by
    have e : (r2.map (· / gW w A)).sum * gW w A = lowW w A * gW w A := by
      rw [lowW_mul]
      have e2 : ((r2.map (· / gW w A)).map (· * gW w A)) = r2 := by
        rw [List.map_map]
        refine (List.map_congr_left fun x hx => ?_).trans (List.map_id' r2)
        exact Int.ediv_mul_cancel (gW_item h2 hx)
      have e3 : ∀ l : List Int, (l.map (· * gW w A)).sum = l.sum * gW w A := by
        intro l
        induction l with
        | nil => rw [List.map_nil, List.sum_nil, Int.zero_mul]
        | cons x l ih => rw [List.map_cons, List.sum_cons, List.sum_cons, ih, Int.add_mul]
      rw [← e3, e2, p.sum]
    exact Int.eq_of_mul_eq_mul_right (by omega) e
  have nn : ∀ x ∈ (r2.map (· / gW w A)).map (· * t), 0 ≤ x := fun x hx => by
    obtain ⟨y, hy, rfl⟩ := List.mem_map.mp hx
    obtain ⟨z, hz, rfl⟩ := List.mem_map.mp hy
    exact Int.mul_nonneg (Int.ediv_nonneg (p.nn z hz).1 (by omega)) (by omega)
  have hs2 : ((r2.map (· / gW w A)).map (· * t)).sum = lowW w A * t := by
    rw [← hs]
    generalize r2.map (· / gW w A) = l
    induction l with
    | nil => rw [List.map_nil, List.sum_nil, Int.zero_mul]
    | cons x l ih => rw [List.map_cons, List.sum_cons, List.sum_cons, ih, Int.add_mul]
  have big : ∀ (l : List Int), (∀ x ∈ l, 0 ≤ x) → ∀ x ∈ l, x ≤ l.sum := by
    intro l
    induction l with
    | nil => exact fun _ x hx => nomatch hx
    | cons a l ih =>
      intro hl x hx
      rw [List.sum_cons]
      have sn : 0 ≤ l.sum := by
        have all : ∀ m : List Int, (∀ x ∈ m, 0 ≤ x) → 0 ≤ m.sum := by
          intro m
          induction m with
          | nil => exact fun _ => Int.le_refl 0
          | cons b m ih2 =>
            intro hm
            rw [List.sum_cons]
            have := hm b List.mem_cons_self
            have := ih2 fun x hx => hm x (List.mem_cons_of_mem _ hx)
            omega
        exact all l fun x hx => hl x (List.mem_cons_of_mem _ hx)
      have a0 := hl a List.mem_cons_self
      rcases List.mem_cons.mp hx with rfl | hx
      · omega
      · have := ih (fun x hx => hl x (List.mem_cons_of_mem _ hx)) x hx
        omega
  refine ⟨by rw [List.length_map, List.length_map]; exact p.len, fun x hx => ⟨nn x hx, ?_⟩, hs2⟩
  have := big _ nn x hx
  omega
theorem scale_all (v w : Int) : ∀ {A B : List (List Int)}, A.length = B.length → ((∀ p ∈ A.zip B, p.1.map (· * v) = p.2.map (· * w)) ↔ scaleM v A = scaleM w B)
  | [], [], _ => ⟨fun _ => rfl, fun _ _ h => nomatch h⟩
  | a :: A, b :: B, h => by
    have ih := scale_all v w (A := A) (B := B) (by simpa using h)
    unfold scaleM at ih ⊢
    rw [List.zip_cons_cons, List.map_cons, List.map_cons]
    constructor
    · intro hh
      rw [ih.mp fun p hp => hh p (List.mem_cons_of_mem _ hp), hh (a, b) List.mem_cons_self]
    · intro hh p hp
      injection hh with h1 h2
      rcases List.mem_cons.mp hp with rfl | hp
      · exact h1
      · exact ih.mpr h2 p hp
  | [], _ :: _, h => by simp at h
  | _ :: _, [], h => by simp at h
theorem lowM_inj {w v : Int} {A B : List (List Int)} (h : lowM w A = lowM v B) : lowW w A = lowW v B ∧ lowR w A = lowR v B := by
  unfold lowM lookD at h
  injection h with h
  injection h with h1 h2
  injection h1 with h1
  injection h2 with h2 _
  injection h2 with h2
  refine ⟨h1, ?_⟩
  rw [← rowsI (lowR w A), ← rowsI (lowR v B), h2]
theorem low_same {w v : Int} {A B : List (List Int)} (w1 : 1 ≤ w) (v1 : 1 ≤ v) : scaleM v A = scaleM w B ↔ lowM w A = lowM v B := by
  constructor
  · intro h
    rw [← lowM_scale (t := v) (w := w) (R := A) (by omega), h, Int.mul_comm w v, lowM_scale (by omega)]
  · intro h
    obtain ⟨h1, h2⟩ := lowM_inj h
    have ew := lowW_mul w A
    have ev := lowW_mul v B
    have eA := lowR_scale w A
    have eB := lowR_scale v B
    rw [← eA, ← eB, ← h2]
    unfold scaleM
    rw [List.map_map, List.map_map]
    refine List.map_congr_left fun r _ => ?_
    show (r.map (· * gW w A)).map (· * v) = (r.map (· * gW v B)).map (· * w)
    rw [List.map_map, List.map_map]
    refine List.map_congr_left fun x _ => ?_
    show x * gW w A * v = x * gW v B * w
    rw [← h1] at ev
    rw [Int.mul_assoc, Int.mul_assoc]
    refine congrArg (x * ·) ?_
    generalize gW w A = p at *
    generalize gW v B = q at *
    rw [← ev, ← ew]
    grind
theorem seq3 {a b c rest : MS} {e : En} {k : Kt} (I : En → Prop) (h1 : ∀ e', I e' → rest e' k) (h2 : ∀ T : MS, (∀ e', I e' → T e' k) → mSeq a (mSeq b (mSeq c T)) e k) : mSeq a (mSeq b (mSeq c rest)) e k := h2 rest h1
theorem seq2 {a b rest : MS} {e : En} {k : Kt} (I : En → Prop) (h1 : ∀ e', I e' → rest e' k) (h2 : ∀ T : MS, (∀ e', I e' → T e' k) → mSeq a (mSeq b T) e k) : mSeq a (mSeq b rest) e k := h2 rest h1
theorem seq1 {a rest : MS} {e : En} {k : Kt} (I : En → Prop) (h1 : ∀ e', I e' → rest e' k) (h2 : ∀ T : MS, (∀ e', I e' → T e' k) → mSeq a T e k) : mSeq a rest e k := h2 rest h1
theorem pl_row (r : List Int) : Pl (.tuple (r.map .int)) := .tup (by
  induction r with
  | nil => exact .nil
  | cons x r ih => exact .cons (.int x) ih)
theorem pl_rows (R : List (List Int)) : Pls (rowsD R) := by
  induction R with
  | nil => exact .nil
  | cons r R ih => exact .cons (pl_row r) ih
theorem pl_look (w : Int) (R : List (List Int)) : Pl (lookD w R) := .tup (.cons (.int w) (.cons (.tup (pl_rows R)) .nil))
theorem pl_frac (a b : Int) : Pl (fracW a b) := pl_row [fracA a b, fracB a b]
theorem pl_map {α : Type} {f : α → PyData} (h : ∀ x, Pl (f x)) : ∀ l : List α, Pls (l.map f)
  | [] => .nil
  | x :: l => .cons (h x) (pl_map h l)
theorem pl_dist (w : Int) (A : List (List Int)) (v : Int) (B : List (List Int)) : Pl (distD w A v B) := .tup (pl_map (fun p => pl_frac _ _) _)
theorem frac_one {t b : Int} (hb : 0 < b) : fracW t b = .tuple [.int 0, .int 1] ↔ t = 0 := by
  have h := eqv_pl (pl_frac t b) (show Pl (.tuple [.int 0, .int 1]) from pl_row [0, 1])
  rw [← h, frac_zero hb, decide_eq_true_eq]
theorem dist_zero {st n : Nat} {w v : Int} {A B : List (List Int)} (dA : Dl st n w A) (dB : Dl st n v B) : distD w A v B = .tuple (List.replicate st (.tuple [.int 0, .int 1])) ↔ lowM w A = lowM v B := by
  have lA := dA.tab.len
  have lB := dB.tab.len
  have wv : 0 < 2 * w * v := Int.mul_pos (by have := dA.w1; omega) dB.w1
  rw [← low_same dA.w1 dB.w1, ← scale_all v w (by omega)]
  unfold distD
  have inj : ∀ xs ys : List PyData, PyData.tuple xs = PyData.tuple ys ↔ xs = ys := fun xs ys => ⟨fun h => by injection h, fun h => by rw [h]⟩
  rw [inj, List.eq_replicate_iff]
  constructor
  · intro ⟨_, h⟩ p hp
    have hl : p.1.length = p.2.length := by rw [dA.tab.row _ (List.of_mem_zip (show (p.1, p.2) ∈ A.zip B from hp)).1, dB.tab.row _ (List.of_mem_zip (show (p.1, p.2) ∈ A.zip B from hp)).2]
    exact (gap_zero w v hl).2.mp ((frac_one wv).mp (h _ (List.mem_map.mpr ⟨p, hp, rfl⟩)))
  · intro h
    refine ⟨by rw [List.length_map, List.length_zip]; omega, fun d hd => ?_⟩
    obtain ⟨p, hp, rfl⟩ := List.mem_map.mp hd
    have hl : p.1.length = p.2.length := by rw [dA.tab.row _ (List.of_mem_zip (show (p.1, p.2) ∈ A.zip B from hp)).1, dB.tab.row _ (List.of_mem_zip (show (p.1, p.2) ∈ A.zip B from hp)).2]
    exact (frac_one wv).mpr ((gap_zero w v hl).2.mpr (h p hp))
/-- both questions have one answer -/
theorem same_eqv {st n : Nat} {w v : Int} {A B : List (List Int)} (dA : Dl st n w A) (dB : Dl st n v B) : PyData.eqv (distD w A v B) (.tuple (List.replicate st (.tuple [.int 0, .int 1]))) = PyData.eqv (lowM w A) (lowM v B) := by
  have z : Pl (.tuple (List.replicate st (.tuple [.int 0, .int 1]))) := by
    have e : List.replicate st (PyData.tuple [.int 0, .int 1]) = (List.range st).map fun _ => PyData.tuple [.int 0, .int 1] := by rw [List.map_const', List.length_range]
    rw [e]
    exact .tup (pl_map (fun _ => pl_row [0, 1]) _)
  rw [Bool.eq_iff_iff, eqv_pl (pl_dist w A v B) z, eqv_pl (show Pl (lowM w A) from pl_look _ _) (show Pl (lowM v B) from pl_look _ _)]
  exact dist_zero dA dB
theorem Dl.sh {st n : Nat} {w : Int} {A : List (List Int)} (h : Dl st n w A) : Sh 30000 3 (lookD w A) := sh_look (h.tab.le (by decide)) (by have := h.w1; omega) (by have := h.w2; omega) (by have := h.s4; omega) (by have := h.n6; omega)
theorem sh_three {s k : Nat} {a b c : PyData} (h1 : Sh s k a) (h2 : Sh s k b) (h3 : Sh s k c) : Sh (3 * (s + 2) + 3) (k + 1) (.list [a, b, c]) := sh_list (ds := [a, b, c]) fun d hd => by
  rcases List.mem_cons.mp hd with z | hd
  · rw [z]; exact h1
  · rcases List.mem_cons.mp hd with z | hd
    · rw [z]; exact h2
    · rw [List.mem_singleton] at hd
      rw [hd]; exact h3
theorem gap_le {w v b : Int} (w0 : 0 ≤ w) (w1 : w ≤ 60) (v0 : 0 ≤ v) (v1 : v ≤ 60) : ∀ {r u : List Int}, (∀ x ∈ r, 0 ≤ x ∧ x ≤ 60) → (∀ x ∈ u, 0 ≤ x ∧ x ≤ 60) → 0 ≤ gapT w v r u ∧ gapT w v r u ≤ 3600 * r.length
  | [], _, _, _ => by
    unfold gapT
    rw [List.zip_nil_left]
    exact ⟨Int.le_refl 0, by simp⟩
  | _ :: _, [], _, _ => by
    unfold gapT
    rw [List.zip_nil_right]
    refine ⟨Int.le_refl 0, ?_⟩
    show (0 : Int) ≤ _
    omega
  | x :: r, y :: u, h1, h2 => by
    have ih := gap_le (b := b) w0 w1 v0 v1 (r := r) (u := u) (fun z hz => h1 z (List.mem_cons_of_mem _ hz)) (fun z hz => h2 z (List.mem_cons_of_mem _ hz))
    have e : gapT w v (x :: r) (y :: u) = (((x * v - y * w).natAbs : Nat) : Int) + gapT w v r u := by
      unfold gapT
      rw [List.zip_cons_cons, List.map_cons, List.sum_cons]
    have hx := h1 x List.mem_cons_self
    have hy := h2 y List.mem_cons_self
    have p1 : x * v ≤ 60 * 60 := Int.mul_le_mul hx.2 v1 v0 (by decide)
    have p2 : y * w ≤ 60 * 60 := Int.mul_le_mul hy.2 w1 w0 (by decide)
    have p3 : 0 ≤ x * v := Int.mul_nonneg hx.1 v0
    have p4 : 0 ≤ y * w := Int.mul_nonneg hy.1 w0
    rw [e, List.length_cons]
    omega
theorem sh_dist {st n : Nat} {w v : Int} {A B : List (List Int)} (dA : Dl st n w A) (dB : Dl st n v B) : Sh 400 2 (distD w A v B) := by
  have w1 := dA.w1
  have w2 := dA.w2
  have v1 := dB.w1
  have v2 := dB.w2
  have wv : 0 < 2 * w * v := Int.mul_pos (by omega) (by omega)
  have wv2 : 2 * w * v ≤ 120 * 60 := Int.mul_le_mul (by omega) v2 (by omega) (by decide)
  have t := sh_tup (s := 89) (k := 1) (ds := (A.zip B).map fun p => fracW (gapT w v p.1 p.2) (2 * w * v)) fun d hd => by
    obtain ⟨p, hp, rfl⟩ := List.mem_map.mp hd
    have m1 := (List.of_mem_zip (show (p.1, p.2) ∈ A.zip B from hp)).1
    have m2 := (List.of_mem_zip (show (p.1, p.2) ∈ A.zip B from hp)).2
    have gl := gap_le (b := 0) (w := w) (v := v) (by omega) w2 (by omega) v2 (dA.tab.ent _ m1) (dB.tab.ent _ m2)
    have rl := dA.tab.row _ m1
    have n6 := dA.n6
    have fb := fracB_pos (gapT w v p.1 p.2) wv
    have g0 := gcdL_nn [gapT w v p.1 p.2, 2 * w * v]
    have fa : 0 ≤ fracA (gapT w v p.1 p.2) (2 * w * v) ∧ fracA (gapT w v p.1 p.2) (2 * w * v) ≤ gapT w v p.1 p.2 := ⟨Int.ediv_nonneg gl.1 g0, Int.ediv_le_self _ gl.1⟩
    have t := sh_tup (s := 41) (k := 0) (ds := [.int (fracA (gapT w v p.1 p.2) (2 * w * v)), .int (fracB (gapT w v p.1 p.2) (2 * w * v))]) fun d hd => by
      rcases List.mem_cons.mp hd with rfl | hd
      · exact sh_int (by omega) (by omega)
      · rw [List.mem_singleton] at hd
        subst hd
        exact sh_int (by omega) (by omega)
    exact t.le (by simp) (Nat.le_refl _)
  rw [List.length_map, List.length_zip, dA.tab.len] at t
  have s4 := dA.s4
  exact t.le (by have := Nat.min_le_left st B.length; omega) (Nat.le_refl _)
theorem sh_told {d : PyData} (h : Sh 400 2 d) : Sh 1000 3 (toldD d) := by
  have s : Sh 400 2 (.str "told") := ⟨by decide +kernel, by decide +kernel, by decide +kernel, by decide +kernel⟩
  exact (sh_two s h).le (by decide) (Nat.le_refl _)


end K18

namespace K18
open PySem PySem.Spec PyProof.Rows L2 Fd

section
variable {P : Program} {w : World} {K : PySem.W.Frag} {mg : Str → Option Value} {base : Heap}
theorem ok_divisor {f : Addr} {fd : FuncData} (F : Fun K "divisor" "divisor" sDivisor f fd) (T : Glb mg) : FnG P w K mg base 1 f fd ["numbers"] (spF K phDivisor 0) := by
  have nd := scDivisor.nd
  refine okQ F scDivisor (fun us Q h => phDivisor_len h) (fun cdv A outer s H B hr hgd => ?_)
  have hu := hr.units
  refine ⟨_, _, (xss_cons (xs_set 1 nd xe_int)
      (xss_cons (xs_for (xf_seq (xq_e (xe_var 0))) (xg_name 2 nd)
      (xss_cons (xs_set 3 nd (xe_abs (xe_var 2) T.g_abs))
      (xss_one (xs_while (xt_cmp op_gt ok_cI (xe_var 3) xe_int) (xss_one (xs_par 1 3 nd (xe_var 3) (xe_op op_mod ok_mod (xe_var 1) (xe_var 3)) (fun ha hb => ps_par rfl nd rfl rfl (by decide) rfl rfl (pa_cons ha (pa_cons hb pa_nil)) (by rfl))))))))
      (xss_one (xs_ret (xe_var 1))))), by intro d; dsimp only; omega, fun us Q h => ?_⟩
  obtain ⟨d, ns, rfl, hd, q⟩ := h
  rcases hd with rfl | rfl
  all_goals
    simp only [mgUnl_l, mPar3, mAugI, mAugN, gRepO_l, gCatO_l, onFz_f, mExt, gIsB_b, mNewT, mPutT, mFreezeT, onDic_c, onTk_t, onTd_t, mLc2, gIsN_d, gIn, mAsg, mAndV, mOrV, gCh, Fd.isInt, Fd.isBl, Fd.isTup, Fd.isLst, Fd.isStr, enumD_len, mSeq, mSet, mSetO, mFor, mForD, mRet, mWhile, mPar, mParOE, mParEO, mParOO, mIfS, mDrop, mLc, mCons, mApp, mNext, mFreeze, mOr, mAnd, mIf, mNot, mB, mYes, entry, getV_v, getL_v, getL_o, onSq_l, onSq_t, onSq_s, onI_i, onIB_i, onIB_b, onB_b, onD_d, onOwn_o, onShow_d, onShowX_d, onDs, allD, gI_i, gAdd_i, gAdd_b, gSb_i, gSb_b, gMul_t, gAdd_l, gAdd_t, gAdd_s, gMul_i, gMul_l, gEq_d, gEqL, mgCons_c, mgTup_t, wipeE, List.set_cons_zero, List.set_cons_succ, List.getElem?_cons_zero, List.getElem?_cons_succ, List.map_cons, List.map_nil, List.length_cons, List.length_nil, List.replicate_succ, List.replicate_zero, List.cons_append, List.nil_append, Nat.reduceAdd, Nat.reduceSub, Nat.zero_add, Option.map_some, Option.map_none, decide_eq_true_eq, Nat.reduceLeDiff, true_and, if_true, Bool.false_eq_true, if_false, eqb_intT, eqb_strT, eqv_int, eqv_str, Bool.not_eq_true', decide_eq_false_iff_not, Bool.not_true, seqD, eqv_nil, eqv_nilT, ne_eq, reduceCtorEq, not_false_eq_true, nDivisor, nFraction, nDistances, nLPot, nLDraw, nLPick, nLCommon, nLFraction, nLLowest, nLShares, nLLook, nLLess, nLGaps, nLAsked, nLaw]
    refine forL_rec (fun ds e => ∃ (ns' : List Int) (g : Int) (x a b : Option Sl), ds = ns'.map .int ∧ 0 ≤ g ∧ ns'.foldl gcdF g = gcdL ns ∧ e = [x, some (.val (.d (.int g))), a, b]) ?_ ?_ _ _ ⟨ns, 0, _, _, _, rfl, Int.le_refl 0, rfl, rfl⟩
    · rintro e ⟨ns', g, x, a, b, hd, hg, hf, rfl⟩
      cases ns' with
      | cons n ns' => cases hd
      | nil =>
        simp only [mgUnl_l, mPar3, mAugI, mAugN, gRepO_l, gCatO_l, onFz_f, mExt, gIsB_b, mNewT, mPutT, mFreezeT, onDic_c, onTk_t, onTd_t, mLc2, gIsN_d, gIn, mAsg, mAndV, mOrV, gCh, Fd.isInt, Fd.isBl, Fd.isTup, Fd.isLst, Fd.isStr, enumD_len, mSeq, mSet, mSetO, mFor, mForD, mRet, mWhile, mPar, mParOE, mParEO, mParOO, mIfS, mDrop, mLc, mCons, mApp, mNext, mFreeze, mOr, mAnd, mIf, mNot, mB, mYes, entry, getV_v, getL_v, getL_o, onSq_l, onSq_t, onSq_s, onI_i, onIB_i, onIB_b, onB_b, onD_d, onOwn_o, onShow_d, onShowX_d, onDs, allD, gI_i, gAdd_i, gAdd_b, gSb_i, gSb_b, gMul_t, gAdd_l, gAdd_t, gAdd_s, gMul_i, gMul_l, gEq_d, gEqL, mgCons_c, mgTup_t, wipeE, List.set_cons_zero, List.set_cons_succ, List.getElem?_cons_zero, List.getElem?_cons_succ, List.map_cons, List.map_nil, List.length_cons, List.length_nil, List.replicate_succ, List.replicate_zero, List.cons_append, List.nil_append, Nat.reduceAdd, Nat.reduceSub, Nat.zero_add, Option.map_some, Option.map_none, decide_eq_true_eq, Nat.reduceLeDiff, true_and, if_true, Bool.false_eq_true, if_false, eqb_intT, eqb_strT, eqv_int, eqv_str, Bool.not_eq_true', decide_eq_false_iff_not, Bool.not_true, seqD, eqv_nil, eqv_nilT, ne_eq, reduceCtorEq, not_false_eq_true, nDivisor, nFraction, nDistances, nLPot, nLDraw, nLPick, nLCommon, nLFraction, nLLowest, nLShares, nLLook, nLLess, nLGaps, nLAsked, nLaw]
        rw [← hf] at q
        exact q
    · rintro d ds e R ⟨ns', g, x, a, b, hd, hg, hf, rfl⟩ hR
      cases ns' with
      | nil => cases hd
      | cons n ns' =>
        rw [List.map_cons] at hd
        injection hd with h1 h2
        subst h1 h2
        simp only [mgUnl_l, mPar3, mAugI, mAugN, gRepO_l, gCatO_l, onFz_f, mExt, gIsB_b, mNewT, mPutT, mFreezeT, onDic_c, onTk_t, onTd_t, mLc2, gIsN_d, gIn, mAsg, mAndV, mOrV, gCh, Fd.isInt, Fd.isBl, Fd.isTup, Fd.isLst, Fd.isStr, enumD_len, mSeq, mSet, mSetO, mFor, mForD, mRet, mWhile, mPar, mParOE, mParEO, mParOO, mIfS, mDrop, mLc, mCons, mApp, mNext, mFreeze, mOr, mAnd, mIf, mNot, mB, mYes, entry, getV_v, getL_v, getL_o, onSq_l, onSq_t, onSq_s, onI_i, onIB_i, onIB_b, onB_b, onD_d, onOwn_o, onShow_d, onShowX_d, onDs, allD, gI_i, gAdd_i, gAdd_b, gSb_i, gSb_b, gMul_t, gAdd_l, gAdd_t, gAdd_s, gMul_i, gMul_l, gEq_d, gEqL, mgCons_c, mgTup_t, wipeE, List.set_cons_zero, List.set_cons_succ, List.getElem?_cons_zero, List.getElem?_cons_succ, List.map_cons, List.map_nil, List.length_cons, List.length_nil, List.replicate_succ, List.replicate_zero, List.cons_append, List.nil_append, Nat.reduceAdd, Nat.reduceSub, Nat.zero_add, Option.map_some, Option.map_none, decide_eq_true_eq, Nat.reduceLeDiff, true_and, if_true, Bool.false_eq_true, if_false, eqb_intT, eqb_strT, eqv_int, eqv_str, Bool.not_eq_true', decide_eq_false_iff_not, Bool.not_true, seqD, eqv_nil, eqv_nilT, ne_eq, reduceCtorEq, not_false_eq_true, nDivisor, nFraction, nDistances, nLPot, nLDraw, nLPick, nLCommon, nLFraction, nLLowest, nLShares, nLLook, nLLess, nLGaps, nLAsked, nLaw]
        refine ⟨fun m e => ∃ (g' r : Int) (y : Option Sl), e = [x, some (.val (.d (.int g'))), y, some (.val (.d (.int r)))] ∧ 0 ≤ g' ∧ 0 ≤ r ∧ r.toNat = m ∧ ((Int.gcd g' r : Nat) : Int) = gcdF g n, ⟨_, g, _, _, rfl, hg, ?_, rfl, ?_⟩, ?_⟩
        · split <;> omega
        · split
          · rw [Int.gcd_neg]; rfl
          · rfl
        · rintro m e ⟨g', r, y, rfl, hg', hr, hm, hgcd⟩
          simp only [mgUnl_l, mPar3, mAugI, mAugN, gRepO_l, gCatO_l, onFz_f, mExt, gIsB_b, mNewT, mPutT, mFreezeT, onDic_c, onTk_t, onTd_t, mLc2, gIsN_d, gIn, mAsg, mAndV, mOrV, gCh, Fd.isInt, Fd.isBl, Fd.isTup, Fd.isLst, Fd.isStr, enumD_len, mSeq, mSet, mSetO, mFor, mForD, mRet, mWhile, mPar, mParOE, mParEO, mParOO, mIfS, mDrop, mLc, mCons, mApp, mNext, mFreeze, mOr, mAnd, mIf, mNot, mB, mYes, entry, getV_v, getL_v, getL_o, onSq_l, onSq_t, onSq_s, onI_i, onIB_i, onIB_b, onB_b, onD_d, onOwn_o, onShow_d, onShowX_d, onDs, allD, gI_i, gAdd_i, gAdd_b, gSb_i, gSb_b, gMul_t, gAdd_l, gAdd_t, gAdd_s, gMul_i, gMul_l, gEq_d, gEqL, mgCons_c, mgTup_t, wipeE, List.set_cons_zero, List.set_cons_succ, List.getElem?_cons_zero, List.getElem?_cons_succ, List.map_cons, List.map_nil, List.length_cons, List.length_nil, List.replicate_succ, List.replicate_zero, List.cons_append, List.nil_append, Nat.reduceAdd, Nat.reduceSub, Nat.zero_add, Option.map_some, Option.map_none, decide_eq_true_eq, Nat.reduceLeDiff, true_and, if_true, Bool.false_eq_true, if_false, eqb_intT, eqb_strT, eqv_int, eqv_str, Bool.not_eq_true', decide_eq_false_iff_not, Bool.not_true, seqD, eqv_nil, eqv_nilT, ne_eq, reduceCtorEq, not_false_eq_true, nDivisor, nFraction, nDistances, nLPot, nLDraw, nLPick, nLCommon, nLFraction, nLLowest, nLShares, nLLook, nLLess, nLGaps, nLAsked, nLaw]
          by_cases h0 : 0 < r
          · simp only [if_pos h0, mgUnl_l, mPar3, mAugI, mAugN, gRepO_l, gCatO_l, onFz_f, mExt, gIsB_b, mNewT, mPutT, mFreezeT, onDic_c, onTk_t, onTd_t, mLc2, gIsN_d, gIn, mAsg, mAndV, mOrV, gCh, Fd.isInt, Fd.isBl, Fd.isTup, Fd.isLst, Fd.isStr, enumD_len, mSeq, mSet, mSetO, mFor, mForD, mRet, mWhile, mPar, mParOE, mParEO, mParOO, mIfS, mDrop, mLc, mCons, mApp, mNext, mFreeze, mOr, mAnd, mIf, mNot, mB, mYes, entry, getV_v, getL_v, getL_o, onSq_l, onSq_t, onSq_s, onI_i, onIB_i, onIB_b, onB_b, onD_d, onOwn_o, onShow_d, onShowX_d, onDs, allD, gI_i, gAdd_i, gAdd_b, gSb_i, gSb_b, gMul_t, gAdd_l, gAdd_t, gAdd_s, gMul_i, gMul_l, gEq_d, gEqL, mgCons_c, mgTup_t, wipeE, List.set_cons_zero, List.set_cons_succ, List.getElem?_cons_zero, List.getElem?_cons_succ, List.map_cons, List.map_nil, List.length_cons, List.length_nil, List.replicate_succ, List.replicate_zero, List.cons_append, List.nil_append, Nat.reduceAdd, Nat.reduceSub, Nat.zero_add, Option.map_some, Option.map_none, decide_eq_true_eq, Nat.reduceLeDiff, true_and, if_true, Bool.false_eq_true, if_false, eqb_intT, eqb_strT, eqv_int, eqv_str, Bool.not_eq_true', decide_eq_false_iff_not, Bool.not_true, seqD, eqv_nil, eqv_nilT, ne_eq, reduceCtorEq, not_false_eq_true, nDivisor, nFraction, nDistances, nLPot, nLDraw, nLPick, nLCommon, nLFraction, nLLowest, nLShares, nLLook, nLLess, nLGaps, nLAsked, nLaw]
            refine ⟨h0, (g' % r).toNat, ?_, r, g' % r, _, rfl, hr, Int.emod_nonneg _ (by omega), rfl, ?_⟩
            · have := Int.emod_lt_of_pos g' h0
              have := Int.emod_nonneg g' (show r ≠ 0 by omega)
              omega
            · rw [gcd_step h0 hg']; exact hgcd
          · simp only [if_neg h0]
            refine hR _ ⟨ns', g', _, _, _, rfl, hg', ?_, rfl⟩
            rw [← hf, List.foldl_cons, ← hgcd]
            have e0 : r = 0 := by omega
            subst e0
            congr 1
            rw [Int.gcd_zero_right]
            omega

theorem cal_divisor {k : Nat} {f : Addr} {fd : FuncData} (F : Fun K "divisor" "divisor" sDivisor f fd) (g : mg "divisor" = some (.ref f)) (h : FnG P w K mg base k f fd ["numbers"] (spF K phDivisor 0)) : Cal P w K mg base k "divisor" sDivisor ["numbers"] phDivisor 0 :=
  ⟨phDivisor_mono, ⟨_, f, fd, F, g, h⟩, fun _ _ _ _ _ _ _ us hl => match us, hl with | [_], _ => rfl⟩
end

section
variable {P : Program} {w : World} {K : PySem.W.Frag} {mg : Str → Option Value} {base : Heap}
theorem ok_fraction {f : Addr} {fd : FuncData} (F : Fun K "fraction" "fraction" sFraction f fd) (T : Glb mg) (c_divisor : Cal P w K mg base 1 "divisor" sDivisor ["numbers"] phDivisor 0) : FnG P w K mg base 2 f fd ["above", "below"] (spF K phFraction 0) := by
  have nd := scFraction.nd
  refine okQ F scFraction (fun us Q h => phFraction_len h) (fun cdv A outer s H B hr hgd => ?_)
  have hu := hr.units
  refine ⟨_, _, (xss_cons (xs_set 2 nd (xe_call (c_divisor.up (by decide)) hr hgd (xa_cons (xe_tup (xa_cons (xe_var 0) (xa_cons (xe_var 1) xa_nil))) xa_nil)))
      (xss_one (xs_ret (xe_tup (xa_cons (xe_op op_fdivW ok_div (xe_var 0) (xe_var 2)) (xa_cons (xe_op op_fdivW ok_div (xe_var 1) (xe_var 2)) xa_nil)))))), by intro d; dsimp only; omega, fun us Q h => ?_⟩
  obtain ⟨a, b, rfl, b1, b2, q⟩ := h
  simp only [mPut, gIx_0, gIx_1, gIx_2, allD_nil, allD_cons, mgUnl_l, mPar3, mAugI, mAugN, gRepO_l, gCatO_l, onFz_f, mExt, gIsB_b, mNewT, mPutT, mFreezeT, onDic_c, onTk_t, onTd_t, mLc2, gIsN_d, gIn, mAsg, mAndV, mOrV, gCh, Fd.isInt, Fd.isBl, Fd.isTup, Fd.isLst, Fd.isStr, enumD_len, mSeq, mSet, mSetO, mFor, mForD, mRet, mWhile, mPar, mParOE, mParEO, mParOO, mIfS, mDrop, mLc, mCons, mApp, mNext, mFreeze, mOr, mAnd, mIf, mNot, mB, mYes, entry, getV_v, getL_v, getL_o, onSq_l, onSq_t, onSq_s, onI_i, onIB_i, onIB_b, onB_b, onD_d, onOwn_o, onShow_d, onShowX_d, onDs, allD, gI_i, gAdd_i, gAdd_b, gSb_i, gSb_b, gMul_t, gAdd_l, gAdd_t, gAdd_s, gMul_i, gMul_l, gEq_d, gEqL, mgCons_c, mgTup_t, wipeE, List.set_cons_zero, List.set_cons_succ, List.getElem?_cons_zero, List.getElem?_cons_succ, List.map_cons, List.map_nil, List.length_cons, List.length_nil, List.replicate_succ, List.replicate_zero, List.cons_append, List.nil_append, Nat.reduceAdd, Nat.reduceSub, Nat.zero_add, Option.map_some, Option.map_none, decide_eq_true_eq, Nat.reduceLeDiff, true_and, if_true, Bool.false_eq_true, if_false, eqb_intT, eqb_strT, eqv_int, eqv_str, Bool.not_eq_true', decide_eq_false_iff_not, Bool.not_true, seqD, eqv_nil, eqv_nilT, ne_eq, reduceCtorEq, not_false_eq_true, nDivisor, nFraction, nDistances, nLPot, nLDraw, nLPick, nLCommon, nLFraction, nLLowest, nLShares, nLLook, nLLess, nLGaps, nLAsked, nLaw]
  refine ⟨_, [a, b], rfl, .inr rfl, ?_⟩
  have hg := gcd_pairW a b1
  simp only [mPut, gIx_0, gIx_1, gIx_2, allD_nil, allD_cons, mgUnl_l, mPar3, mAugI, mAugN, gRepO_l, gCatO_l, onFz_f, mExt, gIsB_b, mNewT, mPutT, mFreezeT, onDic_c, onTk_t, onTd_t, mLc2, gIsN_d, gIn, mAsg, mAndV, mOrV, gCh, Fd.isInt, Fd.isBl, Fd.isTup, Fd.isLst, Fd.isStr, enumD_len, mSeq, mSet, mSetO, mFor, mForD, mRet, mWhile, mPar, mParOE, mParEO, mParOO, mIfS, mDrop, mLc, mCons, mApp, mNext, mFreeze, mOr, mAnd, mIf, mNot, mB, mYes, entry, getV_v, getL_v, getL_o, onSq_l, onSq_t, onSq_s, onI_i, onIB_i, onIB_b, onB_b, onD_d, onOwn_o, onShow_d, onShowX_d, onDs, allD, gI_i, gAdd_i, gAdd_b, gSb_i, gSb_b, gMul_t, gAdd_l, gAdd_t, gAdd_s, gMul_i, gMul_l, gEq_d, gEqL, mgCons_c, mgTup_t, wipeE, List.set_cons_zero, List.set_cons_succ, List.getElem?_cons_zero, List.getElem?_cons_succ, List.map_cons, List.map_nil, List.length_cons, List.length_nil, List.replicate_succ, List.replicate_zero, List.cons_append, List.nil_append, Nat.reduceAdd, Nat.reduceSub, Nat.zero_add, Option.map_some, Option.map_none, decide_eq_true_eq, Nat.reduceLeDiff, true_and, if_true, Bool.false_eq_true, if_false, eqb_intT, eqb_strT, eqv_int, eqv_str, Bool.not_eq_true', decide_eq_false_iff_not, Bool.not_true, seqD, eqv_nil, eqv_nilT, ne_eq, reduceCtorEq, not_false_eq_true, nDivisor, nFraction, nDistances, nLPot, nLDraw, nLPick, nLCommon, nLFraction, nLLowest, nLShares, nLLook, nLLess, nLGaps, nLAsked, nLaw]
  exact ⟨cdvW hg.1 (by omega), cdvW hg.1 (by omega), q⟩

theorem cal_fraction {k : Nat} {f : Addr} {fd : FuncData} (F : Fun K "fraction" "fraction" sFraction f fd) (g : mg "fraction" = some (.ref f)) (h : FnG P w K mg base k f fd ["above", "below"] (spF K phFraction 0)) : Cal P w K mg base k "fraction" sFraction ["above", "below"] phFraction 0 :=
  ⟨phFraction_mono, ⟨_, f, fd, F, g, h⟩, fun _ _ _ _ _ _ _ us hl => match us, hl with | [_, _], _ => rfl⟩
end

section
variable {P : Program} {w : World} {K : PySem.W.Frag} {mg : Str → Option Value} {base : Heap}
theorem ok_distances {f : Addr} {fd : FuncData} (F : Fun K "distances" "distances" sDistances f fd) (T : Glb mg) {xUnfit yUnfit wUnfit : Addr} (e_Unfit : ExT P K mg "Unfit" "LookError" "nothing" aUnfit bUnfit zUnfit xUnfit yUnfit wUnfit) (c_fraction : Cal P w K mg base 2 "fraction" sFraction ["above", "below"] phFraction 0) : FnX P w K mg base 3 f fd ["one", "other"] (spX K mg phDistances) := by
  have nd := scDistances.nd
  refine okQX F scDistances (fun us Q R h => phDistances_len h) (fun cdv A outer s H B E R hr hgd L => ?_)
  have hu := hr.units
  refine ⟨_, _, (xss_cons (xs_if (xt_cmp (op_neP hu) ok_eq (xe_len (xl_e (xe_ix (xl_e (xe_ix (xl_var 0) xe_int)) xe_int)) T.g_len) (xe_len (xl_e (xe_ix (xl_e (xe_ix (xl_var 1) xe_int)) xe_int)) T.g_len)) (xss_one (xs_raise0 rfl L e_Unfit.g (pmk_Unfit e_Unfit.k hr rfl e_Unfit.g)))
      xss_nil)
      (xss_cons (xs_setO 2 nd (xo_lst xa_nil))
      (xss_cons (xs_for (hp := passes_of rfl) (xf_zip (xq_e (xe_ix (xl_var 0) xe_int)) (xq_e (xe_ix (xl_var 1) xe_int)) T.g_zip) (xg_tup (n := 2) (xgs_cons (xg_name 3 nd) (xgs_cons (xg_name 4 nd) xgs_nil)))
      (xss_cons (xs_setLc 5 nd (LcP.mk (own := [("item", 6), ("more", 7)]) (js := ([6] ++ ([7] ++ []))) (xi_zip (xl_var 3) (xl_var 4) T.g_zip) (blkOk_by (by show blkC nDistances (defScope sDistances) _ _ = true; decide +kernel)) (fun _ _ _ _ _ => (xg_tup (n := 2) (xgs_cons (xg_name 6 nd) (xgs_cons (xg_name 7 nd) xgs_nil)))) (fun _ _ _ _ _ => xts_nil) (fun _ _ _ _ _ => (xe_abs (xe_op op_sb ok_sb (xe_op op_ml ok_mul (xe_var 6) (xe_ix (xl_var 1) xe_int)) (xe_op op_ml ok_mul (xe_var 7) (xe_ix (xl_var 0) xe_int))) T.g_abs)) (by decide) at_any))
      (xss_one (xs_append 2 (xm_e (xe_call (c_fraction.up (by decide)) hr hgd (xa_cons (xe_sum (xl_var 5) T.g_sum) (xa_cons (xe_op op_ml ok_mul (xe_op op_ml ok_mul xe_int (xe_ix (xl_var 0) xe_int)) (xe_ix (xl_var 1) xe_int)) xa_nil)))) (fun ha hb => pe_bm PySem.F.plainAttrs_list PySem.F.slot_list_append PySem.F.type_list_append mt_append ha (pa_cons hb pa_nil))))))
      (xss_one (xs_ret (xe_tuple (xl_var 2) T.g_tuple)))))), fun us Q h => ?_⟩
  obtain ⟨st, n, m, w, R1, v, V, rfl, dl, dl2, q, r⟩ := h
  have lo := dl2.lo
  have tab := dl.tab
  have w1 := dl.w1
  have w2 := dl.w2
  have s1 := dl.s1
  have lA := tab.len
  have lB := lo.tab.len
  have l0 := tab.row _ (rowA_mem (R := R1) (i := 0) (Int.le_refl 0) (by omega))
  have l1 := lo.tab.row _ (rowA_mem (R := V) (i := 0) (Int.le_refl 0) (by omega))
  simp only [mPut, gIx_0, gIx_1, gIx_2, allD_nil, allD_cons, mgUnl_l, mPar3, mAugI, mAugN, gRepO_l, gCatO_l, onFz_f, mExt, gIsB_b, mNewT, mPutT, mFreezeT, onDic_c, onTk_t, onTd_t, mLc2, gIsN_d, gIn, mAsg, mAndV, mOrV, gCh, Fd.isInt, Fd.isBl, Fd.isTup, Fd.isLst, Fd.isStr, enumD_len, mSeq, mSet, mSetO, mFor, mForD, mRet, mWhile, mPar, mParOE, mParEO, mParOO, mIfS, mDrop, mLc, mCons, mApp, mNext, mFreeze, mOr, mAnd, mIf, mNot, mB, mYes, entry, getV_v, getL_v, getL_o, onSq_l, onSq_t, onSq_s, onI_i, onIB_i, onIB_b, onB_b, onD_d, onOwn_o, onShow_d, onShowX_d, onDs, allD, gI_i, gAdd_i, gAdd_b, gSb_i, gSb_b, gMul_t, gAdd_l, gAdd_t, gAdd_s, gMul_i, gMul_l, gEq_d, gEqL, mgCons_c, mgTup_t, wipeE, List.set_cons_zero, List.set_cons_succ, List.getElem?_cons_zero, List.getElem?_cons_succ, List.map_cons, List.map_nil, List.length_cons, List.length_nil, List.replicate_succ, List.replicate_zero, List.cons_append, List.nil_append, Nat.reduceAdd, Nat.reduceSub, Nat.zero_add, Option.map_some, Option.map_none, decide_eq_true_eq, Nat.reduceLeDiff, true_and, if_true, Bool.false_eq_true, if_false, eqb_intT, eqb_strT, eqv_int, eqv_str, Bool.not_eq_true', decide_eq_false_iff_not, Bool.not_true, seqD, eqv_nil, eqv_nilT, ne_eq, reduceCtorEq, not_false_eq_true, nDivisor, nFraction, nDistances, nLPot, nLDraw, nLPick, nLCommon, nLFraction, nLLowest, nLShares, nLLook, nLLess, nLGaps, nLAsked, nLaw, lookD]
  refine gIx_mk (rowsD_at (Int.le_refl 0) (by omega)) ?_
  simp only [mPut, gIx_0, gIx_1, gIx_2, allD_nil, allD_cons, mgUnl_l, mPar3, mAugI, mAugN, gRepO_l, gCatO_l, onFz_f, mExt, gIsB_b, mNewT, mPutT, mFreezeT, onDic_c, onTk_t, onTd_t, mLc2, gIsN_d, gIn, mAsg, mAndV, mOrV, gCh, Fd.isInt, Fd.isBl, Fd.isTup, Fd.isLst, Fd.isStr, enumD_len, mSeq, mSet, mSetO, mFor, mForD, mRet, mWhile, mPar, mParOE, mParEO, mParOO, mIfS, mDrop, mLc, mCons, mApp, mNext, mFreeze, mOr, mAnd, mIf, mNot, mB, mYes, entry, getV_v, getL_v, getL_o, onSq_l, onSq_t, onSq_s, onI_i, onIB_i, onIB_b, onB_b, onD_d, onOwn_o, onShow_d, onShowX_d, onDs, allD, gI_i, gAdd_i, gAdd_b, gSb_i, gSb_b, gMul_t, gAdd_l, gAdd_t, gAdd_s, gMul_i, gMul_l, gEq_d, gEqL, mgCons_c, mgTup_t, wipeE, List.set_cons_zero, List.set_cons_succ, List.getElem?_cons_zero, List.getElem?_cons_succ, List.map_cons, List.map_nil, List.length_cons, List.length_nil, List.replicate_succ, List.replicate_zero, List.cons_append, List.nil_append, Nat.reduceAdd, Nat.reduceSub, Nat.zero_add, Option.map_some, Option.map_none, decide_eq_true_eq, Nat.reduceLeDiff, true_and, if_true, Bool.false_eq_true, if_false, eqb_intT, eqb_strT, eqv_int, eqv_str, Bool.not_eq_true', decide_eq_false_iff_not, Bool.not_true, seqD, eqv_nil, eqv_nilT, ne_eq, reduceCtorEq, not_false_eq_true, nDivisor, nFraction, nDistances, nLPot, nLDraw, nLPick, nLCommon, nLFraction, nLLowest, nLShares, nLLook, nLLess, nLGaps, nLAsked, nLaw]
  refine gIx_mk (rowsD_at (Int.le_refl 0) (by omega)) ?_
  simp only [mPut, gIx_0, gIx_1, gIx_2, allD_nil, allD_cons, mgUnl_l, mPar3, mAugI, mAugN, gRepO_l, gCatO_l, onFz_f, mExt, gIsB_b, mNewT, mPutT, mFreezeT, onDic_c, onTk_t, onTd_t, mLc2, gIsN_d, gIn, mAsg, mAndV, mOrV, gCh, Fd.isInt, Fd.isBl, Fd.isTup, Fd.isLst, Fd.isStr, enumD_len, mSeq, mSet, mSetO, mFor, mForD, mRet, mWhile, mPar, mParOE, mParEO, mParOO, mIfS, mDrop, mLc, mCons, mApp, mNext, mFreeze, mOr, mAnd, mIf, mNot, mB, mYes, entry, getV_v, getL_v, getL_o, onSq_l, onSq_t, onSq_s, onI_i, onIB_i, onIB_b, onB_b, onD_d, onOwn_o, onShow_d, onShowX_d, onDs, allD, gI_i, gAdd_i, gAdd_b, gSb_i, gSb_b, gMul_t, gAdd_l, gAdd_t, gAdd_s, gMul_i, gMul_l, gEq_d, gEqL, mgCons_c, mgTup_t, wipeE, List.set_cons_zero, List.set_cons_succ, List.getElem?_cons_zero, List.getElem?_cons_succ, List.map_cons, List.map_nil, List.length_cons, List.length_nil, List.replicate_succ, List.replicate_zero, List.cons_append, List.nil_append, Nat.reduceAdd, Nat.reduceSub, Nat.zero_add, Option.map_some, Option.map_none, decide_eq_true_eq, Nat.reduceLeDiff, true_and, if_true, Bool.false_eq_true, if_false, eqb_intT, eqb_strT, eqv_int, eqv_str, Bool.not_eq_true', decide_eq_false_iff_not, Bool.not_true, seqD, eqv_nil, eqv_nilT, ne_eq, reduceCtorEq, not_false_eq_true, nDivisor, nFraction, nDistances, nLPot, nLDraw, nLPick, nLCommon, nLFraction, nLLowest, nLShares, nLLook, nLLess, nLGaps, nLAsked, nLaw]
  rw [List.length_map, List.length_map, l0, l1]
  by_cases nm : n = m
  · subst nm
    rw [if_neg (by simp)]
    have v1 := lo.w1
    have v2 := dl2.w2
    have s6 := lo.s6
    have n6 := lo.n6
    have wv : 0 < 2 * w * v := Int.mul_pos (by omega) (by omega)
    have wv2 : 2 * w * v ≤ 120 * 60 := Int.mul_le_mul (by omega) v2 (by omega) (by decide)
    have wvb : 2 * w * v ≤ 10 ^ 300 := Int.le_trans wv2 (by decide)
    have ez : zipD (rowsD R1) (rowsD V) = (R1.zip V).map fun p : List Int × List Int => PyData.tuple [.tuple (p.1.map .int), .tuple (p.2.map .int)] := zipD_map _ _ _ _
    rw [ez]
    refine ⟨rfl, forL_rec (fun ds e => ∃ (dn rs : List (List Int × List Int)) (x3 x4 x5 x6 x7 : Option Sl), ds = rs.map (fun p : List Int × List Int => PyData.tuple [.tuple (p.1.map .int), .tuple (p.2.map .int)]) ∧ dn ++ rs = R1.zip V ∧ e = [some (Sl.val (U.d (PyData.tuple [PyData.int w, PyData.tuple (rowsD R1)]))), some (Sl.val (U.d (PyData.tuple [PyData.int v, PyData.tuple (rowsD V)]))), some (Sl.own (dn.map fun p => fracW (gapT w v p.1 p.2) (2 * w * v))), x3, x4, x5, x6, x7]) ?_ ?_ _ _ ⟨[], R1.zip V, none, none, none, none, none, rfl, rfl, rfl⟩⟩
    · rintro e ⟨dn, rs, x3, x4, x5, x6, x7, hd2, ha, rfl⟩
      cases rs with
      | cons r rs => cases hd2
      | nil =>
        rw [List.append_nil] at ha
        subst ha
        simp only [mPut, gIx_0, gIx_1, gIx_2, allD_nil, allD_cons, mgUnl_l, mPar3, mAugI, mAugN, gRepO_l, gCatO_l, onFz_f, mExt, gIsB_b, mNewT, mPutT, mFreezeT, onDic_c, onTk_t, onTd_t, mLc2, gIsN_d, gIn, mAsg, mAndV, mOrV, gCh, Fd.isInt, Fd.isBl, Fd.isTup, Fd.isLst, Fd.isStr, enumD_len, mSeq, mSet, mSetO, mFor, mForD, mRet, mWhile, mPar, mParOE, mParEO, mParOO, mIfS, mDrop, mLc, mCons, mApp, mNext, mFreeze, mOr, mAnd, mIf, mNot, mB, mYes, entry, getV_v, getL_v, getL_o, onSq_l, onSq_t, onSq_s, onI_i, onIB_i, onIB_b, onB_b, onD_d, onOwn_o, onShow_d, onShowX_d, onDs, allD, gI_i, gAdd_i, gAdd_b, gSb_i, gSb_b, gMul_t, gAdd_l, gAdd_t, gAdd_s, gMul_i, gMul_l, gEq_d, gEqL, mgCons_c, mgTup_t, wipeE, List.set_cons_zero, List.set_cons_succ, List.getElem?_cons_zero, List.getElem?_cons_succ, List.map_cons, List.map_nil, List.length_cons, List.length_nil, List.replicate_succ, List.replicate_zero, List.cons_append, List.nil_append, Nat.reduceAdd, Nat.reduceSub, Nat.zero_add, Option.map_some, Option.map_none, decide_eq_true_eq, Nat.reduceLeDiff, true_and, if_true, Bool.false_eq_true, if_false, eqb_intT, eqb_strT, eqv_int, eqv_str, Bool.not_eq_true', decide_eq_false_iff_not, Bool.not_true, seqD, eqv_nil, eqv_nilT, ne_eq, reduceCtorEq, not_false_eq_true, nDivisor, nFraction, nDistances, nLPot, nLDraw, nLPick, nLCommon, nLFraction, nLLowest, nLShares, nLLook, nLLess, nLGaps, nLAsked, nLaw]
        exact q rfl
    · rintro d ds e RR ⟨dn, rs, x3, x4, x5, x6, x7, hd2, ha, rfl⟩ hR
      cases rs with
      | nil => cases hd2
      | cons p rs =>
        rw [List.map_cons] at hd2
        injection hd2 with r1 r2
        subst r1 r2
        have pm : p ∈ R1.zip V := by rw [← ha]; simp
        have m1 := (List.of_mem_zip (show (p.1, p.2) ∈ R1.zip V from pm)).1
        have m2 := (List.of_mem_zip (show (p.1, p.2) ∈ R1.zip V from pm)).2
        have l1 := tab.row p.1 m1
        have e1 := tab.ent p.1 m1
        have e2 := lo.tab.ent p.2 m2
        simp only [mPut, gIx_0, gIx_1, gIx_2, allD_nil, allD_cons, mgUnl_l, mPar3, mAugI, mAugN, gRepO_l, gCatO_l, onFz_f, mExt, gIsB_b, mNewT, mPutT, mFreezeT, onDic_c, onTk_t, onTd_t, mLc2, gIsN_d, gIn, mAsg, mAndV, mOrV, gCh, Fd.isInt, Fd.isBl, Fd.isTup, Fd.isLst, Fd.isStr, enumD_len, mSeq, mSet, mSetO, mFor, mForD, mRet, mWhile, mPar, mParOE, mParEO, mParOO, mIfS, mDrop, mLc, mCons, mApp, mNext, mFreeze, mOr, mAnd, mIf, mNot, mB, mYes, entry, getV_v, getL_v, getL_o, onSq_l, onSq_t, onSq_s, onI_i, onIB_i, onIB_b, onB_b, onD_d, onOwn_o, onShow_d, onShowX_d, onDs, allD, gI_i, gAdd_i, gAdd_b, gSb_i, gSb_b, gMul_t, gAdd_l, gAdd_t, gAdd_s, gMul_i, gMul_l, gEq_d, gEqL, mgCons_c, mgTup_t, wipeE, List.set_cons_zero, List.set_cons_succ, List.getElem?_cons_zero, List.getElem?_cons_succ, List.map_cons, List.map_nil, List.length_cons, List.length_nil, List.replicate_succ, List.replicate_zero, List.cons_append, List.nil_append, Nat.reduceAdd, Nat.reduceSub, Nat.zero_add, Option.map_some, Option.map_none, decide_eq_true_eq, Nat.reduceLeDiff, true_and, if_true, Bool.false_eq_true, if_false, eqb_intT, eqb_strT, eqv_int, eqv_str, Bool.not_eq_true', decide_eq_false_iff_not, Bool.not_true, seqD, eqv_nil, eqv_nilT, ne_eq, reduceCtorEq, not_false_eq_true, nDivisor, nFraction, nDistances, nLPot, nLDraw, nLPick, nLCommon, nLFraction, nLLowest, nLShares, nLLook, nLLess, nLGaps, nLAsked, nLaw]
        rw [zipD_map]
        refine ⟨rfl, by rw [List.length_map, List.length_zip]; omega, lcGo_fun (fun x : Int × Int => PyData.tuple [.int x.1, .int x.2]) (fun x => .int (((x.1 * v - x.2 * w).natAbs : Nat) : Int)) (p.1.zip p.2) [] (fun x hx R2 hR2 => ?_) ?_⟩
        · have h1 := e1 x.1 (List.of_mem_zip hx).1
          have := e2 x.2 (List.of_mem_zip hx).2
          simp only [mPut, gIx_0, gIx_1, gIx_2, allD_nil, allD_cons, mgUnl_l, mPar3, mAugI, mAugN, gRepO_l, gCatO_l, onFz_f, mExt, gIsB_b, mNewT, mPutT, mFreezeT, onDic_c, onTk_t, onTd_t, mLc2, gIsN_d, gIn, mAsg, mAndV, mOrV, gCh, Fd.isInt, Fd.isBl, Fd.isTup, Fd.isLst, Fd.isStr, enumD_len, mSeq, mSet, mSetO, mFor, mForD, mRet, mWhile, mPar, mParOE, mParEO, mParOO, mIfS, mDrop, mLc, mCons, mApp, mNext, mFreeze, mOr, mAnd, mIf, mNot, mB, mYes, entry, getV_v, getL_v, getL_o, onSq_l, onSq_t, onSq_s, onI_i, onIB_i, onIB_b, onB_b, onD_d, onOwn_o, onShow_d, onShowX_d, onDs, allD, gI_i, gAdd_i, gAdd_b, gSb_i, gSb_b, gMul_t, gAdd_l, gAdd_t, gAdd_s, gMul_i, gMul_l, gEq_d, gEqL, mgCons_c, mgTup_t, wipeE, List.set_cons_zero, List.set_cons_succ, List.getElem?_cons_zero, List.getElem?_cons_succ, List.map_cons, List.map_nil, List.length_cons, List.length_nil, List.replicate_succ, List.replicate_zero, List.cons_append, List.nil_append, Nat.reduceAdd, Nat.reduceSub, Nat.zero_add, Option.map_some, Option.map_none, decide_eq_true_eq, Nat.reduceLeDiff, true_and, if_true, Bool.false_eq_true, if_false, eqb_intT, eqb_strT, eqv_int, eqv_str, Bool.not_eq_true', decide_eq_false_iff_not, Bool.not_true, seqD, eqv_nil, eqv_nilT, ne_eq, reduceCtorEq, not_false_eq_true, nDivisor, nFraction, nDistances, nLPot, nLDraw, nLPick, nLCommon, nLFraction, nLLowest, nLShares, nLLook, nLLess, nLGaps, nLAsked, nLaw]
          refine ⟨cml (by omega) (by omega), cml (by omega) (by omega), ?_⟩
          have ea : (if x.1 * v - x.2 * w < 0 then -(x.1 * v - x.2 * w) else x.1 * v - x.2 * w) = (((x.1 * v - x.2 * w).natAbs : Nat) : Int) := by split <;> omega
          rw [ea]
          exact hR2
        · have e : ((p.1.zip p.2).map fun x : Int × Int => PyData.int (((x.1 * v - x.2 * w).natAbs : Nat) : Int)) = ((p.1.zip p.2).map fun x : Int × Int => (((x.1 * v - x.2 * w).natAbs : Nat) : Int)).map .int := by rw [List.map_map]; rfl
          rw [List.nil_append, e]
          refine onIs_mk ?_
          have hlen := congrArg List.length ha
          rw [List.length_append, List.length_cons, List.length_zip, lo.tab.len] at hlen
          refine ⟨cml (by omega) (by omega), cml (by omega) (by omega), _, 2 * w * v, rfl, wv, wvb, ?_⟩
          simp only [mPut, gIx_0, gIx_1, gIx_2, allD_nil, allD_cons, mgUnl_l, mPar3, mAugI, mAugN, gRepO_l, gCatO_l, onFz_f, mExt, gIsB_b, mNewT, mPutT, mFreezeT, onDic_c, onTk_t, onTd_t, mLc2, gIsN_d, gIn, mAsg, mAndV, mOrV, gCh, Fd.isInt, Fd.isBl, Fd.isTup, Fd.isLst, Fd.isStr, enumD_len, mSeq, mSet, mSetO, mFor, mForD, mRet, mWhile, mPar, mParOE, mParEO, mParOO, mIfS, mDrop, mLc, mCons, mApp, mNext, mFreeze, mOr, mAnd, mIf, mNot, mB, mYes, entry, getV_v, getL_v, getL_o, onSq_l, onSq_t, onSq_s, onI_i, onIB_i, onIB_b, onB_b, onD_d, onOwn_o, onShow_d, onShowX_d, onDs, allD, gI_i, gAdd_i, gAdd_b, gSb_i, gSb_b, gMul_t, gAdd_l, gAdd_t, gAdd_s, gMul_i, gMul_l, gEq_d, gEqL, mgCons_c, mgTup_t, wipeE, List.set_cons_zero, List.set_cons_succ, List.getElem?_cons_zero, List.getElem?_cons_succ, List.map_cons, List.map_nil, List.length_cons, List.length_nil, List.replicate_succ, List.replicate_zero, List.cons_append, List.nil_append, Nat.reduceAdd, Nat.reduceSub, Nat.zero_add, Option.map_some, Option.map_none, decide_eq_true_eq, Nat.reduceLeDiff, true_and, if_true, Bool.false_eq_true, if_false, eqb_intT, eqb_strT, eqv_int, eqv_str, Bool.not_eq_true', decide_eq_false_iff_not, Bool.not_true, seqD, eqv_nil, eqv_nilT, ne_eq, reduceCtorEq, not_false_eq_true, nDivisor, nFraction, nDistances, nLPot, nLDraw, nLPick, nLCommon, nLFraction, nLLowest, nLShares, nLLook, nLLess, nLGaps, nLAsked, nLaw]
          refine ⟨⟨by rw [List.length_map]; omega⟩, ?_⟩
          have e3 : (dn.map fun p => fracW (gapT w v p.1 p.2) (2 * w * v)) ++ [fracW (gapT w v p.1 p.2) (2 * w * v)] = (dn ++ [p]).map fun p => fracW (gapT w v p.1 p.2) (2 * w * v) := by
            rw [List.map_append]
            rfl
          have e4 : fracW ((p.1.zip p.2).map fun x : Int × Int => (((x.1 * v - x.2 * w).natAbs : Nat) : Int)).sum (2 * w * v) = fracW (gapT w v p.1 p.2) (2 * w * v) := rfl
          rw [e4, e3]
          exact hR _ ⟨dn ++ [p], rs, _, _, _, _, _, rfl, by rw [List.append_assoc]; exact ha, rfl⟩
  · rw [if_pos (by omega)]
    exact r nm

theorem cal_distances {k : Nat} {f : Addr} {fd : FuncData} (F : Fun K "distances" "distances" sDistances f fd) (g : mg "distances" = some (.ref f)) (h : FnX P w K mg base k f fd ["one", "other"] (spX K mg phDistances)) : CalX P w K mg base k "distances" sDistances ["one", "other"] phDistances :=
  ⟨phDistances_mono, phDistances_nop, ⟨_, f, fd, F, g, h⟩, fun _ _ _ _ _ _ _ us hl => match us, hl with | [_, _], _ => rfl⟩
end

section
variable {P : Program} {w : World} {K : PySem.W.Frag} {mg : Str → Option Value} {base : Heap}
theorem ok__law_pot {f : Addr} {fd : FuncData} (F : Fun K "_law_pot" "_law_pot" sLPot f fd) (T : Glb mg) : FnG P w K mg base 1 f fd ["script"] (spF K phLPot 0) := by
  have nd := scLPot.nd
  refine okQ F scLPot (fun us Q h => phLPot_len h) (fun cdv A outer s H B hr hgd => ?_)
  have hu := hr.units
  refine ⟨_, _, (xss_cons (xs_par 1 2 nd (xe_o (xo_lc nd (LcP.mk (own := [("cell", 3)]) (js := [3]) (xi_seq (xl_e (xe_sl (xl_var 0) xp_none (xp_some xe_int)))) (blkOk_by (by show blkC nLPot (defScope sLPot) _ _ = true; decide +kernel)) (fun _ _ _ _ _ => (xg_name 3 nd)) (fun _ _ _ _ _ => xts_nil) (fun _ _ _ _ _ => (xe_op op_ad ok_add (xe_op op_ml ok_mul xe_int (xe_abs (xe_var 3) T.g_abs)) (xe_toint (xe_cmp op_lt ok_cI (xe_var 3) xe_int) T.g_int))) (by decide) at_any))) (xe_op op_ad ok_add xe_int (xe_op op_ml ok_mul xe_int (xe_len (xl_var 0) T.g_len))) (fun ha hb => ps_par rfl nd rfl rfl (by decide) rfl rfl (pa_cons ha (pa_cons hb pa_nil)) (by rfl)))
      (xss_cons (xs_for (xf_seq (xq_e (xe_var 1))) (xg_name 3 nd)
      (xss_one (xs_set 2 nd (xe_op op_mod ok_mod (xe_toint (xe_op op_ad ok_add (xe_op op_ad ok_add (xe_op op_ml ok_mul (xe_var 2) xe_int) (xe_var 3)) xe_int) T.g_int) xe_int))))
      (xss_one (xs_ret (xe_disp (xps_cons (xe_o (xo_lc nd (LcP.mk (own := [("cell", 3)]) (js := [3]) (xi_seq (xl_var 1)) (blkOk_by (by show blkC nLPot (defScope sLPot) _ _ = true; decide +kernel)) (fun _ _ _ _ _ => (xg_name 3 nd)) (fun _ _ _ _ _ => (xts_one (xt_cmp op_ge ok_cI (xe_var 3) (xe_op op_pow ok_pow xe_int xe_int)))) (fun _ _ _ _ _ => (xe_var 3)) (by decide) at_any))) (xps_cons (xe_var 2) (xps_cons xe_int xps_nil))) (fun vs h => match vs, h with | [_, _, _], _ => rfl)))))), by intro d; dsimp only; omega, fun us Q h => ?_⟩
  obtain ⟨ns, rfl, hl, q⟩ := h
  simp only [mgUnl_l, mPar3, mAugI, mAugN, gRepO_l, gCatO_l, onFz_f, mExt, gIsB_b, mNewT, mPutT, mFreezeT, onDic_c, onTk_t, onTd_t, mLc2, gIsN_d, gIn, mAsg, mAndV, mOrV, gCh, Fd.isInt, Fd.isBl, Fd.isTup, Fd.isLst, Fd.isStr, enumD_len, mSeq, mSet, mSetO, mFor, mForD, mRet, mWhile, mPar, mParOE, mParEO, mParOO, mIfS, mDrop, mLc, mCons, mApp, mNext, mFreeze, mOr, mAnd, mIf, mNot, mB, mYes, entry, getV_v, getL_v, getL_o, onSq_l, onSq_t, onSq_s, onI_i, onIB_i, onIB_b, onB_b, onD_d, onOwn_o, onShow_d, onShowX_d, onDs, allD, gI_i, gAdd_i, gAdd_b, gSb_i, gSb_b, gMul_t, gAdd_l, gAdd_t, gAdd_s, gMul_i, gMul_l, gEq_d, gEqL, mgCons_c, mgTup_t, wipeE, List.set_cons_zero, List.set_cons_succ, List.getElem?_cons_zero, List.getElem?_cons_succ, List.map_cons, List.map_nil, List.length_cons, List.length_nil, List.replicate_succ, List.replicate_zero, List.cons_append, List.nil_append, Nat.reduceAdd, Nat.reduceSub, Nat.zero_add, Option.map_some, Option.map_none, decide_eq_true_eq, Nat.reduceLeDiff, true_and, if_true, Bool.false_eq_true, if_false, eqb_intT, eqb_strT, eqv_int, eqv_str, Bool.not_eq_true', decide_eq_false_iff_not, Bool.not_true, seqD, eqv_nil, eqv_nilT, ne_eq, reduceCtorEq, not_false_eq_true, nDivisor, nFraction, nDistances, nLPot, nLDraw, nLPick, nLCommon, nLFraction, nLLowest, nLShares, nLLook, nLLess, nLGaps, nLAsked, nLaw]
  have ec : Fd.cutD (List.map PyData.int ns) none (some 61) = (ns.take 61).map .int := by
    unfold Fd.cutD
    have e1 : HT.sIx (List.map PyData.int ns).length 0 none = 0 := rfl
    have e2 : HT.sIx ns.length ns.length (some 61) = min 61 ns.length := HT.sIx_nat ns.length ns.length 61
    rw [e1, List.drop_zero, Nat.sub_zero, List.length_map, e2, ← List.map_take]
    rcases Nat.le_total 61 ns.length with z | z
    · rw [Nat.min_eq_left z]
    · rw [Nat.min_eq_right z, List.take_of_length_le (Nat.le_refl _), List.take_of_length_le z]
  rw [ec]
  have tl : (ns.take 61).length ≤ 61 := by rw [List.length_take]; omega
  refine ⟨by rw [List.length_map]; omega, lcGo_gen (fun x => ∃ i, x = .int i ∧ 0 ≤ i) _ (fun d hd R hR => ?_) fun es hes hp => ?_⟩
  · obtain ⟨n, hn, rfl⟩ := List.mem_map.mp hd
    simp only [mgUnl_l, mPar3, mAugI, mAugN, gRepO_l, gCatO_l, onFz_f, mExt, gIsB_b, mNewT, mPutT, mFreezeT, onDic_c, onTk_t, onTd_t, mLc2, gIsN_d, gIn, mAsg, mAndV, mOrV, gCh, Fd.isInt, Fd.isBl, Fd.isTup, Fd.isLst, Fd.isStr, enumD_len, mSeq, mSet, mSetO, mFor, mForD, mRet, mWhile, mPar, mParOE, mParEO, mParOO, mIfS, mDrop, mLc, mCons, mApp, mNext, mFreeze, mOr, mAnd, mIf, mNot, mB, mYes, entry, getV_v, getL_v, getL_o, onSq_l, onSq_t, onSq_s, onI_i, onIB_i, onIB_b, onB_b, onD_d, onOwn_o, onShow_d, onShowX_d, onDs, allD, gI_i, gAdd_i, gAdd_b, gSb_i, gSb_b, gMul_t, gAdd_l, gAdd_t, gAdd_s, gMul_i, gMul_l, gEq_d, gEqL, mgCons_c, mgTup_t, wipeE, List.set_cons_zero, List.set_cons_succ, List.getElem?_cons_zero, List.getElem?_cons_succ, List.map_cons, List.map_nil, List.length_cons, List.length_nil, List.replicate_succ, List.replicate_zero, List.cons_append, List.nil_append, Nat.reduceAdd, Nat.reduceSub, Nat.zero_add, Option.map_some, Option.map_none, decide_eq_true_eq, Nat.reduceLeDiff, true_and, if_true, Bool.false_eq_true, if_false, eqb_intT, eqb_strT, eqv_int, eqv_str, Bool.not_eq_true', decide_eq_false_iff_not, Bool.not_true, seqD, eqv_nil, eqv_nilT, ne_eq, reduceCtorEq, not_false_eq_true, nDivisor, nFraction, nDistances, nLPot, nLDraw, nLPick, nLCommon, nLFraction, nLLowest, nLShares, nLLook, nLLess, nLGaps, nLAsked, nLaw]
    refine ⟨cml (by decide) (by decide), hR _ ⟨_, rfl, ?_⟩⟩
    split <;> first | omega | (split <;> omega)
  · obtain ⟨cs, rfl, hc⟩ := ints_of hp
    rw [List.length_map, List.length_map] at hes
    refine ⟨cml (by decide) (by decide), ?_⟩
    refine forL_rec (fun ds e => ∃ (ls : List Int) (m : Int) (x : Option Sl), ds = ls.map .int ∧ 0 ≤ m ∧ m < 4294967291 ∧ (∀ l ∈ ls, 0 ≤ l) ∧ e = [some (Sl.val (U.scr (List.map PyData.int ns))), some (Sl.val (U.d (PyData.list (cs.map .int)))), some (Sl.val (U.d (PyData.int m))), x]) ?_ ?_ _ _ ⟨cs, _, _, rfl, by rw [List.length_map]; omega, by rw [List.length_map]; omega, hc, rfl⟩
    · rintro e ⟨ls, m, x, hd, m0, m1, hls, rfl⟩
      simp only [mgUnl_l, mPar3, mAugI, mAugN, gRepO_l, gCatO_l, onFz_f, mExt, gIsB_b, mNewT, mPutT, mFreezeT, onDic_c, onTk_t, onTd_t, mLc2, gIsN_d, gIn, mAsg, mAndV, mOrV, gCh, Fd.isInt, Fd.isBl, Fd.isTup, Fd.isLst, Fd.isStr, enumD_len, mSeq, mSet, mSetO, mFor, mForD, mRet, mWhile, mPar, mParOE, mParEO, mParOO, mIfS, mDrop, mLc, mCons, mApp, mNext, mFreeze, mOr, mAnd, mIf, mNot, mB, mYes, entry, getV_v, getL_v, getL_o, onSq_l, onSq_t, onSq_s, onI_i, onIB_i, onIB_b, onB_b, onD_d, onOwn_o, onShow_d, onShowX_d, onDs, allD, gI_i, gAdd_i, gAdd_b, gSb_i, gSb_b, gMul_t, gAdd_l, gAdd_t, gAdd_s, gMul_i, gMul_l, gEq_d, gEqL, mgCons_c, mgTup_t, wipeE, List.set_cons_zero, List.set_cons_succ, List.getElem?_cons_zero, List.getElem?_cons_succ, List.map_cons, List.map_nil, List.length_cons, List.length_nil, List.replicate_succ, List.replicate_zero, List.cons_append, List.nil_append, Nat.reduceAdd, Nat.reduceSub, Nat.zero_add, Option.map_some, Option.map_none, decide_eq_true_eq, Nat.reduceLeDiff, true_and, if_true, Bool.false_eq_true, if_false, eqb_intT, eqb_strT, eqv_int, eqv_str, Bool.not_eq_true', decide_eq_false_iff_not, Bool.not_true, seqD, eqv_nil, eqv_nilT, ne_eq, reduceCtorEq, not_false_eq_true, nDivisor, nFraction, nDistances, nLPot, nLDraw, nLPick, nLCommon, nLFraction, nLLowest, nLShares, nLLook, nLLess, nLGaps, nLAsked, nLaw]
      refine ⟨by rw [List.length_map]; omega, lcGo_some (fun x => ∃ i, x = .int i ∧ 0 ≤ i) _ (fun d hd R hR => ?_) fun es hes2 hp2 => ?_⟩
      · obtain ⟨n, hn, rfl⟩ := List.mem_map.mp hd
        simp only [mgUnl_l, mPar3, mAugI, mAugN, gRepO_l, gCatO_l, onFz_f, mExt, gIsB_b, mNewT, mPutT, mFreezeT, onDic_c, onTk_t, onTd_t, mLc2, gIsN_d, gIn, mAsg, mAndV, mOrV, gCh, Fd.isInt, Fd.isBl, Fd.isTup, Fd.isLst, Fd.isStr, enumD_len, mSeq, mSet, mSetO, mFor, mForD, mRet, mWhile, mPar, mParOE, mParEO, mParOO, mIfS, mDrop, mLc, mCons, mApp, mNext, mFreeze, mOr, mAnd, mIf, mNot, mB, mYes, entry, getV_v, getL_v, getL_o, onSq_l, onSq_t, onSq_s, onI_i, onIB_i, onIB_b, onB_b, onD_d, onOwn_o, onShow_d, onShowX_d, onDs, allD, gI_i, gAdd_i, gAdd_b, gSb_i, gSb_b, gMul_t, gAdd_l, gAdd_t, gAdd_s, gMul_i, gMul_l, gEq_d, gEqL, mgCons_c, mgTup_t, wipeE, List.set_cons_zero, List.set_cons_succ, List.getElem?_cons_zero, List.getElem?_cons_succ, List.map_cons, List.map_nil, List.length_cons, List.length_nil, List.replicate_succ, List.replicate_zero, List.cons_append, List.nil_append, Nat.reduceAdd, Nat.reduceSub, Nat.zero_add, Option.map_some, Option.map_none, decide_eq_true_eq, Nat.reduceLeDiff, true_and, if_true, Bool.false_eq_true, if_false, eqb_intT, eqb_strT, eqv_int, eqv_str, Bool.not_eq_true', decide_eq_false_iff_not, Bool.not_true, seqD, eqv_nil, eqv_nilT, ne_eq, reduceCtorEq, not_false_eq_true, nDivisor, nFraction, nDistances, nLPot, nLDraw, nLPick, nLCommon, nLFraction, nLLowest, nLShares, nLLook, nLLess, nLGaps, nLAsked, nLaw]
        refine ⟨⟨by decide, by decide, by decide⟩, ?_⟩
        split
        · exact hR _ fun x hx => by cases hx; exact ⟨n, rfl, hc n hn⟩
        · exact hR _ fun x hx => nomatch hx
      · obtain ⟨gs, rfl, hg⟩ := ints_of hp2
        rw [List.length_map, List.length_map] at hes2
        exact q _ ⟨gs, m, rfl, by omega, hg, m0, m1⟩
    · rintro d ds e R ⟨ls, m, x, hd, m0, m1, hls, rfl⟩ hR
      cases ls with
      | nil => cases hd
      | cons l ls =>
        rw [List.map_cons] at hd
        injection hd with h1 h2
        subst h1 h2
        simp only [mgUnl_l, mPar3, mAugI, mAugN, gRepO_l, gCatO_l, onFz_f, mExt, gIsB_b, mNewT, mPutT, mFreezeT, onDic_c, onTk_t, onTd_t, mLc2, gIsN_d, gIn, mAsg, mAndV, mOrV, gCh, Fd.isInt, Fd.isBl, Fd.isTup, Fd.isLst, Fd.isStr, enumD_len, mSeq, mSet, mSetO, mFor, mForD, mRet, mWhile, mPar, mParOE, mParEO, mParOO, mIfS, mDrop, mLc, mCons, mApp, mNext, mFreeze, mOr, mAnd, mIf, mNot, mB, mYes, entry, getV_v, getL_v, getL_o, onSq_l, onSq_t, onSq_s, onI_i, onIB_i, onIB_b, onB_b, onD_d, onOwn_o, onShow_d, onShowX_d, onDs, allD, gI_i, gAdd_i, gAdd_b, gSb_i, gSb_b, gMul_t, gAdd_l, gAdd_t, gAdd_s, gMul_i, gMul_l, gEq_d, gEqL, mgCons_c, mgTup_t, wipeE, List.set_cons_zero, List.set_cons_succ, List.getElem?_cons_zero, List.getElem?_cons_succ, List.map_cons, List.map_nil, List.length_cons, List.length_nil, List.replicate_succ, List.replicate_zero, List.cons_append, List.nil_append, Nat.reduceAdd, Nat.reduceSub, Nat.zero_add, Option.map_some, Option.map_none, decide_eq_true_eq, Nat.reduceLeDiff, true_and, if_true, Bool.false_eq_true, if_false, eqb_intT, eqb_strT, eqv_int, eqv_str, Bool.not_eq_true', decide_eq_false_iff_not, Bool.not_true, seqD, eqv_nil, eqv_nilT, ne_eq, reduceCtorEq, not_false_eq_true, nDivisor, nFraction, nDistances, nLPot, nLDraw, nLPick, nLCommon, nLFraction, nLLowest, nLShares, nLLook, nLLess, nLGaps, nLAsked, nLaw]
        refine ⟨cml (by omega) (by omega), by decide, hR _ ⟨ls, _, _, rfl, Int.emod_nonneg _ (by decide), Int.emod_lt_of_pos _ (by decide), fun l hl => hls l (List.mem_cons_of_mem _ hl), rfl⟩⟩

theorem cal__law_pot {k : Nat} {f : Addr} {fd : FuncData} (F : Fun K "_law_pot" "_law_pot" sLPot f fd) (g : mg "_law_pot" = some (.ref f)) (h : FnG P w K mg base k f fd ["script"] (spF K phLPot 0)) : Cal P w K mg base k "_law_pot" sLPot ["script"] phLPot 0 :=
  ⟨phLPot_mono, ⟨_, f, fd, F, g, h⟩, fun _ _ _ _ _ _ _ us hl => match us, hl with | [_], _ => rfl⟩
end

section
variable {P : Program} {w : World} {K : PySem.W.Frag} {mg : Str → Option Value} {base : Heap}
theorem ok__law_draw {f : Addr} {fd : FuncData} (F : Fun K "_law_draw" "_law_draw" sLDraw f fd) (T : Glb mg) : FnG P w K mg base 1 f fd ["pot", "many"] (spF K phLDraw 1) := by
  have nd := scLDraw.nd
  refine okG F scLDraw (fun vs H Q ⟨pt, G, us, _, _, _, _, d, q⟩ => by rw [d.len]; exact phLDraw_len q) fun cdv A outer s H vs Q hr hgd ⟨pt, G, us, bd, sub, gp, J, d, q⟩ => ?_
  have hu := hr.units
  have hu1 : (A.deeper (envOfC (Str.ofString "_law_draw") (defScope sLDraw) s.heap.objs.size f cdv)).units + 1 < cLine := by omega
  refine ⟨_, pss_cons (ps_set (i := 2) nd rfl (.inl rfl) (pe_dget hu1 (pv 0) pe_str (fun _ _ => rfl)))
    (pss_cons (ps_if (pt_cmpR (op_neP hu) (pv 2) (pe_lst pa_nil) (nomark _))
      (pss_cons (ps_set (i := 3) nd rfl (.inl rfl) (pe_bm PySem.F.plainAttrs_list PySem.F.slot_list_pop PySem.F.type_list_pop mt_popAt (pv 2) (pa_cons pe_int pa_nil)))
      (pss_cons (ps_if (pt_cmpR op_ge (pv 3) (pv 1) (nomark _)) (pss_one (ps_expr (pe_bm PySem.F.plainAttrs_list PySem.F.slot_list_insert PySem.F.type_list_insert mt_insert (pv 2) (pa_cons pe_int (pa_cons (pe_op op_fdivW (pv 3) (pv 1)) pa_nil))) rfl)) pss_nil)
      (pss_one (ps_ret (pe_op op_mod (pe_callTy call_int1 rfl T.g_int (by decide +kernel) (pa_cons (pv 3) pa_nil)) (pv 1)))))) pss_nil)
    (pss_cons (ps_dput hu1 (pv 0) pe_str (pe_op op_add (pe_dget hu1 (pv 0) pe_str (fun _ _ => rfl)) pe_int) rfl)
    (pss_cons (ps_set (i := 4) nd rfl (.inl rfl) (pe_dget hu1 (pv 0) pe_str (fun _ _ => rfl)))
    (pss_cons (ps_set (i := 5) nd rfl (.inl rfl) (pe_op op_mod (pe_callTy call_int1 rfl T.g_int (by decide +kernel) (pa_cons (pe_op op_add (pe_op op_add (pe_op op_mul (pe_dget hu1 (pv 0) pe_str (fun _ _ => rfl)) pe_int) (pe_op op_mul (pe_op op_mulW (pv 4) (pv 4)) pe_int)) (pe_op op_mul pe_int (pv 4))) pa_nil)) pe_int))
    (pss_cons (ps_set (i := 5) nd rfl (.inl rfl) (pe_op op_mod (pe_callTy call_int1 rfl T.g_int (by decide +kernel) (pa_cons (pe_op op_add (pe_op op_mul (pv 5) pe_int) (pe_op op_fdivW (pv 5) pe_int)) pa_nil)) pe_int))
    (pss_cons (ps_dput hu1 (pv 0) pe_str (pv 5) rfl)
    (pss_one (ps_ret (pe_op op_mod (pe_callTy call_int1 rfl T.g_int (by decide +kernel) (pa_cons (pe_op op_fdivW (pv 5) pe_int) pa_nil)) (pv 1)))))))))), ?_⟩
  obtain ⟨many, rfl, m1, m2, q⟩ := q
  cases d with
  | cons d1 d2 =>
  cases d2 with
  | cons d2 d3 =>
  cases d3
  obtain ⟨on, rfl⟩ := d1
  cases d2
  obtain ⟨ne, gs, m, t, e1, e2, h1, h2, h3, h4, h5, h6⟩ := J on
  have fin : ∀ (k : Int) (H' : Hp), 0 ≤ k → k < many → PotJ pt.ap pt.ag bd H' → (∀ b o, H b = some o → b ≠ pt.ap → b ≠ pt.ag → H' b = some o) → Q (.int k) H' := fun k H' k0 k1 pj fr => by
    have np : ∀ b, b ∉ pt.pots → b ≠ pt.ap ∧ b ≠ pt.ag := fun b hb => ⟨fun z => hb (z ▸ Pt.in1 on), fun z => hb (z ▸ Pt.in2 on)⟩
    refine q k k0 k1 (.int k) H' G (fun b o z => ?_) (Same.refl G) gp (fun _ => pj) (fun b o hb hn => fr b o hb (np b hn).1 (np b hn).2) (fun a o z => .inl z) (.int k)
    have hb : b ∉ pt.pots := fun hm => by rw [gp b hm] at z; cases z
    exact fr b o (sub b o z) (np b hb).1 (np b hb).2
  refine ⟨.ref pt.ap, rfl, pt.ap, .ref pt.ag, rfl, dgG e1, ?_⟩
  refine ⟨.ref pt.ag, rfl, Nat.zero_le _, fun p hp => ?_⟩
  have a1 : upd H p (.lst []) pt.ap = some (.dK (potKv pt.ag m t)) := by rw [upd_ne (ne_of_none e1 hp)]; exact e1
  have a2 : upd H p (.lst []) pt.ag = some (.lst (gs.map V.int)) := by rw [upd_ne (ne_of_none e2 hp)]; exact e2
  have a3 : ∀ b o, H b = some o → upd H p (.lst []) b = some o := fun b o z => by rw [upd_ne (ne_of_none z hp)]; exact z
  have pl : ∀ x ∈ gs.map PyData.int, x.plain = true := fun x hx => by
    obtain ⟨i, _, rfl⟩ := List.mem_map.mp hx
    exact plain_int i
  refine ⟨.list (gs.map .int), .list [], .lst a2 (dats_ints gs), .lst upd_same .nil, (eqb_nil pl).px, (eqb_nil pl).py, (eqb_nil pl).le, _, rfl, ?_⟩
  show (if (!PyData.eqv (.list (gs.map .int)) (.list [])) = true then _ else _)
  rw [eqv_nil]
  generalize upd H p (.lst []) = H2 at a1 a2 a3
  cases gs with
  | nil =>
    rw [if_neg (by simp)]
    refine ⟨.ref pt.ap, rfl, pt.ap, .int t, rfl, dgT a1, t, 1, rfl, rfl, ?_⟩
    refine ⟨.ref pt.ap, rfl, pt.ap, _, rfl, dpT (t' := t + 1) a1, ?_⟩
    have b1 : upd H2 pt.ap (.dK (potKv pt.ag m (t + 1))) pt.ap = some (.dK (potKv pt.ag m (t + 1))) := upd_same
    have b2 : upd H2 pt.ap (.dK (potKv pt.ag m (t + 1))) pt.ag = some (.lst []) := by rw [upd_ne (Ne.symm ne)]; exact a2
    have b3 : ∀ b o, H b = some o → b ≠ pt.ap → b ≠ pt.ag → upd H2 pt.ap (.dK (potKv pt.ag m (t + 1))) b = some o := fun b o z n1 n2 => by rw [upd_ne n1]; exact a3 b o z
    change tSeq _ _ _ _ (upd H2 pt.ap (.dK (potKv pt.ag m (t + 1))))
    generalize upd H2 pt.ap (.dK (potKv pt.ag m (t + 1))) = H3 at b1 b2 b3 ⊢
    refine ⟨.ref pt.ap, rfl, pt.ap, .int (t + 1), rfl, dgT b1, ?_⟩
    refine ⟨.ref pt.ap, rfl, pt.ap, .int m, rfl, dgM b1, m, 48271, rfl, rfl, .inr ⟨by decide, by decide⟩, .int (t + 1), rfl, .int (t + 1), rfl, t + 1, t + 1, rfl, rfl, mulw (by omega) (by omega), (t + 1) * (t + 1), 17, rfl, rfl, .inr ⟨by decide, by decide⟩, m * 48271, (t + 1) * (t + 1) * 17, rfl, rfl, .int (t + 1), rfl, 7919, t + 1, rfl, rfl, .inl ⟨by decide, by decide⟩, _, 7919 * (t + 1), rfl, rfl, .inl ⟨_, rfl, _, 4294967279, rfl, rfl, (show (0 : Int) < 4294967279 by decide), ?_⟩⟩
    obtain ⟨n1, hn1⟩ : ∃ n, n = (m * 48271 + (t + 1) * (t + 1) * 17 + 7919 * (t + 1)) % 4294967279 := ⟨_, rfl⟩
    have c1 : 0 ≤ n1 := by rw [hn1]; exact Int.emod_nonneg _ (by decide)
    have c2 : n1 < 4294967279 := by rw [hn1]; exact Int.emod_lt_of_pos _ (by decide)
    refine ⟨.int n1, by rw [hn1]; rfl, n1, 69621, rfl, rfl, .inr ⟨by decide, by decide⟩, .int n1, by rw [hn1]; rfl, n1, 65536, rfl, rfl, ⟨by decide, by decide⟩, n1 * 69621, n1 / 65536, rfl, rfl, .inl ⟨_, rfl, _, 4294967291, rfl, rfl, (show (0 : Int) < 4294967291 by decide), ?_⟩⟩
    obtain ⟨n2, hn2⟩ : ∃ n, n = (n1 * 69621 + n1 / 65536) % 4294967291 := ⟨_, rfl⟩
    have c5 : 0 ≤ n2 := by rw [hn2]; exact Int.emod_nonneg _ (by decide)
    have c6 : n2 < 4294967291 := by rw [hn2]; exact Int.emod_lt_of_pos _ (by decide)
    refine ⟨.int n2, by rw [hn2]; rfl, .ref pt.ap, rfl, pt.ap, _, rfl, dpM (m' := n2) b1, ?_⟩
    have d1 : upd H3 pt.ap (.dK (potKv pt.ag n2 (t + 1))) pt.ap = some (.dK (potKv pt.ag n2 (t + 1))) := upd_same
    have d2 : upd H3 pt.ap (.dK (potKv pt.ag n2 (t + 1))) pt.ag = some (.lst []) := by rw [upd_ne (Ne.symm ne)]; exact b2
    have d3 : ∀ b o, H b = some o → b ≠ pt.ap → b ≠ pt.ag → upd H3 pt.ap (.dK (potKv pt.ag n2 (t + 1))) b = some o := fun b o z n1 n2 => by rw [upd_ne n1]; exact b3 b o z n1 n2
    refine ⟨.int n2, by rw [hn2]; rfl, n2, 1024, rfl, rfl, ⟨by decide, by decide⟩, .inl ⟨_, rfl, .int many, rfl, n2 / 1024, many, rfl, rfl, by omega, ?_⟩⟩
    exact fin _ _ (Int.emod_nonneg _ (by omega)) (Int.emod_lt_of_pos _ (by omega)) ⟨ne, [], _, t + 1, d1, d2, Nat.zero_le _, fun _ z => (nomatch z), c5, c6, by omega, by omega⟩ d3
  | cons g gs' =>
    rw [if_pos (by simp)]
    have hl : ((g :: gs').map V.int)[0]? = some (.int g) := rfl
    have hd : ((g :: gs').map V.int).eraseIdx 0 = gs'.map V.int := rfl
    have g0 : 0 ≤ g := h2 g (by simp)
    have gl : gs'.length ≤ 62 := by
      rw [List.length_cons] at h1
      omega
    have gn : ∀ x ∈ gs', 0 ≤ x := fun x hx => h2 x (List.mem_cons_of_mem _ hx)
    refine ⟨.ref pt.ag, rfl, .inl ⟨rfl, _, .inl (.inl a2)⟩, pt.ag, _, 0, 0, .int g, rfl, rfl, a2, by decide, by decide, by simp [seqIndex?], hl, ?_⟩
    rw [hd]
    have b1 : upd H2 pt.ag (.lst (gs'.map V.int)) pt.ap = some (.dK (potKv pt.ag m t)) := by rw [upd_ne ne]; exact a1
    have b2 : upd H2 pt.ag (.lst (gs'.map V.int)) pt.ag = some (.lst (gs'.map V.int)) := upd_same
    have b3 : ∀ b o, H b = some o → b ≠ pt.ap → b ≠ pt.ag → upd H2 pt.ag (.lst (gs'.map V.int)) b = some o := fun b o z n1 n2 => by rw [upd_ne n2]; exact a3 b o z
    generalize upd H2 pt.ag (.lst (gs'.map V.int)) = H3 at b1 b2 b3 ⊢
    refine ⟨.int g, rfl, .int many, rfl, g, many, rfl, rfl, _, rfl, ?_⟩
    by_cases hc : many ≤ g
    · show (if decide (many ≤ g) = true then _ else _)
      rw [if_pos (decide_eq_true hc)]
      refine ⟨.ref pt.ag, rfl, .inl ⟨rfl, _, .inl (.inl b2)⟩, .int g, rfl, .int many, rfl, g, many, rfl, rfl, Fd.cdv (i := g) (by omega) (by omega), pt.ag, _, 0, .int (g / many), rfl, rfl, b2, ?_, by decide, by decide, ?_⟩
      · rw [List.length_map]
        exact small1000 (by omega)
      · refine ⟨.int g, rfl, .inl ⟨g, rfl, .int many, rfl, g, many, rfl, rfl, by omega, ?_⟩⟩
        refine fin _ _ (Int.emod_nonneg _ (by omega)) (Int.emod_lt_of_pos _ (by omega)) ⟨ne, (g / many) :: gs', m, t, ?_, ?_, ?_, fun x hx => ?_, h3, h4, h5, by omega⟩ fun b o z n1 n2 => ?_
        · rw [upd_ne ne]; exact b1
        · rw [upd_same]; rfl
        · rw [List.length_cons]; omega
        · rcases List.mem_cons.mp hx with z | z
          · rw [z]
            exact Int.ediv_nonneg g0 (by omega)
          · exact gn x z
        · rw [upd_ne n2]; exact b3 b o z n1 n2
    · show (if decide (many ≤ g) = true then _ else _)
      rw [if_neg (by simpa using hc)]
      refine ⟨.int g, rfl, .inl ⟨g, rfl, .int many, rfl, g, many, rfl, rfl, by omega, ?_⟩⟩
      exact fin _ H3 (Int.emod_nonneg _ (by omega)) (Int.emod_lt_of_pos _ (by omega)) ⟨ne, gs', m, t, b1, b2, by omega, gn, h3, h4, h5, by omega⟩ b3

theorem cal__law_draw {k : Nat} {f : Addr} {fd : FuncData} (F : Fun K "_law_draw" "_law_draw" sLDraw f fd) (g : mg "_law_draw" = some (.ref f)) (h : FnG P w K mg base k f fd ["pot", "many"] (spF K phLDraw 1)) : Cal P w K mg base k "_law_draw" sLDraw ["pot", "many"] phLDraw 1 :=
  ⟨phLDraw_mono, ⟨_, f, fd, F, g, h⟩, fun _ _ _ _ _ _ _ us hl => match us, hl with | [_, _], _ => rfl⟩
end

section
variable {P : Program} {w : World} {K : PySem.W.Frag} {mg : Str → Option Value} {base : Heap}
theorem ok__law_pick {f : Addr} {fd : FuncData} (F : Fun K "_law_pick" "_law_pick" sLPick f fd) (T : Glb mg) (c__law_draw : Cal P w K mg base 1 "_law_draw" sLDraw ["pot", "many"] phLDraw 1) : FnG P w K mg base 2 f fd ["pot", "row"] (spF K phLPick 1) := by
  have nd := scLPick.nd
  refine okQ F scLPick (fun us Q h => phLPick_len h) (fun cdv A outer s H B hr hgd => ?_)
  have hu := hr.units
  refine ⟨_, _, (xss_one (xs_ret (xe_ix (xl_var 1) (xe_call (c__law_draw.up (by decide)) hr hgd (xa_cons (xe_var 0) (xa_cons (xe_len (xl_var 1) T.g_len) xa_nil)))))), by intro d; dsimp only; omega, fun us Q h => ?_⟩
  obtain ⟨ds, ha, ne, hl, q⟩ := h
  have l1 : 0 < ds.length := List.length_pos_iff.mpr ne
  rcases oneArg_out ha with rfl | rfl
  all_goals
    simp only [mgUnl_l, mPar3, mAugI, mAugN, gRepO_l, gCatO_l, onFz_f, mExt, gIsB_b, mNewT, mPutT, mFreezeT, onDic_c, onTk_t, onTd_t, mLc2, gIsN_d, gIn, mAsg, mAndV, mOrV, gCh, Fd.isInt, Fd.isBl, Fd.isTup, Fd.isLst, Fd.isStr, enumD_len, mSeq, mSet, mSetO, mFor, mForD, mRet, mWhile, mPar, mParOE, mParEO, mParOO, mIfS, mDrop, mLc, mCons, mApp, mNext, mFreeze, mOr, mAnd, mIf, mNot, mB, mYes, entry, getV_v, getL_v, getL_o, onSq_l, onSq_t, onSq_s, onI_i, onIB_i, onIB_b, onB_b, onD_d, onOwn_o, onShow_d, onShowX_d, onDs, allD, gI_i, gAdd_i, gAdd_b, gSb_i, gSb_b, gMul_t, gAdd_l, gAdd_t, gAdd_s, gMul_i, gMul_l, gEq_d, gEqL, mgCons_c, mgTup_t, wipeE, List.set_cons_zero, List.set_cons_succ, List.getElem?_cons_zero, List.getElem?_cons_succ, List.map_cons, List.map_nil, List.length_cons, List.length_nil, List.replicate_succ, List.replicate_zero, List.cons_append, List.nil_append, Nat.reduceAdd, Nat.reduceSub, Nat.zero_add, Option.map_some, Option.map_none, decide_eq_true_eq, Nat.reduceLeDiff, true_and, if_true, Bool.false_eq_true, if_false, eqb_intT, eqb_strT, eqv_int, eqv_str, Bool.not_eq_true', decide_eq_false_iff_not, Bool.not_true, seqD, eqv_nil, eqv_nilT, ne_eq, reduceCtorEq, not_false_eq_true, nDivisor, nFraction, nDistances, nLPot, nLDraw, nLPick, nLCommon, nLFraction, nLLowest, nLShares, nLLook, nLLess, nLGaps, nLAsked, nLaw]
    refine ⟨_, rfl, by omega, by omega, fun k k0 k1 => ?_⟩
    obtain ⟨j, rfl⟩ := Int.eq_ofNat_of_zero_le k0
    have hj : j < ds.length := by omega
    exact gIx_mk (atI_nat (n := j) rfl (List.getElem?_eq_getElem hj)) (q _ (List.getElem_mem hj))

theorem cal__law_pick {k : Nat} {f : Addr} {fd : FuncData} (F : Fun K "_law_pick" "_law_pick" sLPick f fd) (g : mg "_law_pick" = some (.ref f)) (h : FnG P w K mg base k f fd ["pot", "row"] (spF K phLPick 1)) : Cal P w K mg base k "_law_pick" sLPick ["pot", "row"] phLPick 1 :=
  ⟨phLPick_mono, ⟨_, f, fd, F, g, h⟩, fun _ _ _ _ _ _ _ us hl => match us, hl with | [_, _], _ => rfl⟩
end

section
variable {P : Program} {w : World} {K : PySem.W.Frag} {mg : Str → Option Value} {base : Heap}
theorem ok__law_common {f : Addr} {fd : FuncData} (F : Fun K "_law_common" "_law_common" sLCommon f fd) (T : Glb mg) : FnG P w K mg base 1 f fd ["one", "other"] (spF K phLCommon 0) := by
  have nd := scLCommon.nd
  refine okQ F scLCommon (fun us Q h => phLCommon_len h) (fun cdv A outer s H B hr hgd => ?_)
  have hu := hr.units
  refine ⟨_, _, (xss_cons (xs_while (xt_cmp op_gt ok_cI (xe_var 1) xe_int) (xss_one (xs_par 0 1 nd (xe_var 1) (xe_op op_mod ok_mod (xe_toint (xe_var 0) T.g_int) (xe_var 1)) (fun ha hb => ps_par rfl nd rfl rfl (by decide) rfl rfl (pa_cons ha (pa_cons hb pa_nil)) (by rfl)))))
      (xss_one (xs_ret (xe_var 0)))), by intro d; dsimp only; omega, fun us Q h => ?_⟩
  obtain ⟨a, b, rfl, a0, b0, q⟩ := h
  simp only [mPut, gIx_0, gIx_1, gIx_2, allD_nil, allD_cons, mgUnl_l, mPar3, mAugI, mAugN, gRepO_l, gCatO_l, onFz_f, mExt, gIsB_b, mNewT, mPutT, mFreezeT, onDic_c, onTk_t, onTd_t, mLc2, gIsN_d, gIn, mAsg, mAndV, mOrV, gCh, Fd.isInt, Fd.isBl, Fd.isTup, Fd.isLst, Fd.isStr, enumD_len, mSeq, mSet, mSetO, mFor, mForD, mRet, mWhile, mPar, mParOE, mParEO, mParOO, mIfS, mDrop, mLc, mCons, mApp, mNext, mFreeze, mOr, mAnd, mIf, mNot, mB, mYes, entry, getV_v, getL_v, getL_o, onSq_l, onSq_t, onSq_s, onI_i, onIB_i, onIB_b, onB_b, onD_d, onOwn_o, onShow_d, onShowX_d, onDs, allD, gI_i, gAdd_i, gAdd_b, gSb_i, gSb_b, gMul_t, gAdd_l, gAdd_t, gAdd_s, gMul_i, gMul_l, gEq_d, gEqL, mgCons_c, mgTup_t, wipeE, List.set_cons_zero, List.set_cons_succ, List.getElem?_cons_zero, List.getElem?_cons_succ, List.map_cons, List.map_nil, List.length_cons, List.length_nil, List.replicate_succ, List.replicate_zero, List.cons_append, List.nil_append, Nat.reduceAdd, Nat.reduceSub, Nat.zero_add, Option.map_some, Option.map_none, decide_eq_true_eq, Nat.reduceLeDiff, true_and, if_true, Bool.false_eq_true, if_false, eqb_intT, eqb_strT, eqv_int, eqv_str, Bool.not_eq_true', decide_eq_false_iff_not, Bool.not_true, seqD, eqv_nil, eqv_nilT, ne_eq, reduceCtorEq, not_false_eq_true, nDivisor, nFraction, nDistances, nLPot, nLDraw, nLPick, nLCommon, nLFraction, nLLowest, nLShares, nLLook, nLLess, nLGaps, nLAsked, nLaw]
  refine ⟨fun m e => ∃ x y : Int, e = [some (Sl.val (U.d (PyData.int x))), some (Sl.val (U.d (PyData.int y)))] ∧ 0 ≤ x ∧ 0 ≤ y ∧ y.toNat = m ∧ gcdF x y = gcdF a b, ⟨_, a, b, rfl, a0, b0, rfl, rfl⟩, ?_⟩
  rintro m e ⟨x, y, rfl, x0, y0, hm, hg⟩
  simp only [mPut, gIx_0, gIx_1, gIx_2, allD_nil, allD_cons, mgUnl_l, mPar3, mAugI, mAugN, gRepO_l, gCatO_l, onFz_f, mExt, gIsB_b, mNewT, mPutT, mFreezeT, onDic_c, onTk_t, onTd_t, mLc2, gIsN_d, gIn, mAsg, mAndV, mOrV, gCh, Fd.isInt, Fd.isBl, Fd.isTup, Fd.isLst, Fd.isStr, enumD_len, mSeq, mSet, mSetO, mFor, mForD, mRet, mWhile, mPar, mParOE, mParEO, mParOO, mIfS, mDrop, mLc, mCons, mApp, mNext, mFreeze, mOr, mAnd, mIf, mNot, mB, mYes, entry, getV_v, getL_v, getL_o, onSq_l, onSq_t, onSq_s, onI_i, onIB_i, onIB_b, onB_b, onD_d, onOwn_o, onShow_d, onShowX_d, onDs, allD, gI_i, gAdd_i, gAdd_b, gSb_i, gSb_b, gMul_t, gAdd_l, gAdd_t, gAdd_s, gMul_i, gMul_l, gEq_d, gEqL, mgCons_c, mgTup_t, wipeE, List.set_cons_zero, List.set_cons_succ, List.getElem?_cons_zero, List.getElem?_cons_succ, List.map_cons, List.map_nil, List.length_cons, List.length_nil, List.replicate_succ, List.replicate_zero, List.cons_append, List.nil_append, Nat.reduceAdd, Nat.reduceSub, Nat.zero_add, Option.map_some, Option.map_none, decide_eq_true_eq, Nat.reduceLeDiff, true_and, if_true, Bool.false_eq_true, if_false, eqb_intT, eqb_strT, eqv_int, eqv_str, Bool.not_eq_true', decide_eq_false_iff_not, Bool.not_true, seqD, eqv_nil, eqv_nilT, ne_eq, reduceCtorEq, not_false_eq_true, nDivisor, nFraction, nDistances, nLPot, nLDraw, nLPick, nLCommon, nLFraction, nLLowest, nLShares, nLLook, nLLess, nLGaps, nLAsked, nLaw]
  by_cases h0 : 0 < y
  · rw [if_pos h0]
    refine ⟨h0, (x % y).toNat, ?_, y, x % y, rfl, y0, Int.emod_nonneg _ (by omega), rfl, ?_⟩
    · have := Int.emod_lt_of_pos x h0
      have := Int.emod_nonneg x (show y ≠ 0 by omega)
      omega
    · unfold gcdF at hg ⊢
      rw [gcd_step h0 x0]
      exact hg
  · rw [if_neg h0]
    have e0 : y = 0 := by omega
    subst e0
    have e : gcdF x 0 = x := by
      unfold gcdF
      rw [Int.gcd_zero_right]
      omega
    rw [← hg, e] at q
    exact q

theorem cal__law_common {k : Nat} {f : Addr} {fd : FuncData} (F : Fun K "_law_common" "_law_common" sLCommon f fd) (g : mg "_law_common" = some (.ref f)) (h : FnG P w K mg base k f fd ["one", "other"] (spF K phLCommon 0)) : Cal P w K mg base k "_law_common" sLCommon ["one", "other"] phLCommon 0 :=
  ⟨phLCommon_mono, ⟨_, f, fd, F, g, h⟩, fun _ _ _ _ _ _ _ us hl => match us, hl with | [_, _], _ => rfl⟩
end

section
variable {P : Program} {w : World} {K : PySem.W.Frag} {mg : Str → Option Value} {base : Heap}
theorem ok__law_fraction {f : Addr} {fd : FuncData} (F : Fun K "_law_fraction" "_law_fraction" sLFraction f fd) (T : Glb mg) (c__law_common : Cal P w K mg base 1 "_law_common" sLCommon ["one", "other"] phLCommon 0) : FnG P w K mg base 2 f fd ["above", "below"] (spF K phLFraction 0) := by
  have nd := scLFraction.nd
  refine okQ F scLFraction (fun us Q h => phLFraction_len h) (fun cdv A outer s H B hr hgd => ?_)
  have hu := hr.units
  refine ⟨_, _, (xss_cons (xs_set 2 nd (xe_call (c__law_common.up (by decide)) hr hgd (xa_cons (xe_abs (xe_var 0) T.g_abs) (xa_cons (xe_var 1) xa_nil))))
      (xss_one (xs_ret (xe_tup (xa_cons (xe_op op_fdivW ok_div (xe_var 0) (xe_var 2)) (xa_cons (xe_op op_fdivW ok_div (xe_var 1) (xe_var 2)) xa_nil)))))), by intro d; dsimp only; omega, fun us Q h => ?_⟩
  obtain ⟨a, b, rfl, b1, b2, q⟩ := h
  simp only [mPut, gIx_0, gIx_1, gIx_2, allD_nil, allD_cons, mgUnl_l, mPar3, mAugI, mAugN, gRepO_l, gCatO_l, onFz_f, mExt, gIsB_b, mNewT, mPutT, mFreezeT, onDic_c, onTk_t, onTd_t, mLc2, gIsN_d, gIn, mAsg, mAndV, mOrV, gCh, Fd.isInt, Fd.isBl, Fd.isTup, Fd.isLst, Fd.isStr, enumD_len, mSeq, mSet, mSetO, mFor, mForD, mRet, mWhile, mPar, mParOE, mParEO, mParOO, mIfS, mDrop, mLc, mCons, mApp, mNext, mFreeze, mOr, mAnd, mIf, mNot, mB, mYes, entry, getV_v, getL_v, getL_o, onSq_l, onSq_t, onSq_s, onI_i, onIB_i, onIB_b, onB_b, onD_d, onOwn_o, onShow_d, onShowX_d, onDs, allD, gI_i, gAdd_i, gAdd_b, gSb_i, gSb_b, gMul_t, gAdd_l, gAdd_t, gAdd_s, gMul_i, gMul_l, gEq_d, gEqL, mgCons_c, mgTup_t, wipeE, List.set_cons_zero, List.set_cons_succ, List.getElem?_cons_zero, List.getElem?_cons_succ, List.map_cons, List.map_nil, List.length_cons, List.length_nil, List.replicate_succ, List.replicate_zero, List.cons_append, List.nil_append, Nat.reduceAdd, Nat.reduceSub, Nat.zero_add, Option.map_some, Option.map_none, decide_eq_true_eq, Nat.reduceLeDiff, true_and, if_true, Bool.false_eq_true, if_false, eqb_intT, eqb_strT, eqv_int, eqv_str, Bool.not_eq_true', decide_eq_false_iff_not, Bool.not_true, seqD, eqv_nil, eqv_nilT, ne_eq, reduceCtorEq, not_false_eq_true, nDivisor, nFraction, nDistances, nLPot, nLDraw, nLPick, nLCommon, nLFraction, nLLowest, nLShares, nLLook, nLLess, nLGaps, nLAsked, nLaw]
  have hg := gcd_pairW a b1
  refine ⟨_, b, rfl, by split <;> omega, by omega, ?_⟩
  have e : gcdF (if a < 0 then -a else a) b = gcdL [a, b] := by
    rw [gcdL_abs]
    congr 1
    split <;> omega
  rw [e]
  simp only [mPut, gIx_0, gIx_1, gIx_2, allD_nil, allD_cons, mgUnl_l, mPar3, mAugI, mAugN, gRepO_l, gCatO_l, onFz_f, mExt, gIsB_b, mNewT, mPutT, mFreezeT, onDic_c, onTk_t, onTd_t, mLc2, gIsN_d, gIn, mAsg, mAndV, mOrV, gCh, Fd.isInt, Fd.isBl, Fd.isTup, Fd.isLst, Fd.isStr, enumD_len, mSeq, mSet, mSetO, mFor, mForD, mRet, mWhile, mPar, mParOE, mParEO, mParOO, mIfS, mDrop, mLc, mCons, mApp, mNext, mFreeze, mOr, mAnd, mIf, mNot, mB, mYes, entry, getV_v, getL_v, getL_o, onSq_l, onSq_t, onSq_s, onI_i, onIB_i, onIB_b, onB_b, onD_d, onOwn_o, onShow_d, onShowX_d, onDs, allD, gI_i, gAdd_i, gAdd_b, gSb_i, gSb_b, gMul_t, gAdd_l, gAdd_t, gAdd_s, gMul_i, gMul_l, gEq_d, gEqL, mgCons_c, mgTup_t, wipeE, List.set_cons_zero, List.set_cons_succ, List.getElem?_cons_zero, List.getElem?_cons_succ, List.map_cons, List.map_nil, List.length_cons, List.length_nil, List.replicate_succ, List.replicate_zero, List.cons_append, List.nil_append, Nat.reduceAdd, Nat.reduceSub, Nat.zero_add, Option.map_some, Option.map_none, decide_eq_true_eq, Nat.reduceLeDiff, true_and, if_true, Bool.false_eq_true, if_false, eqb_intT, eqb_strT, eqv_int, eqv_str, Bool.not_eq_true', decide_eq_false_iff_not, Bool.not_true, seqD, eqv_nil, eqv_nilT, ne_eq, reduceCtorEq, not_false_eq_true, nDivisor, nFraction, nDistances, nLPot, nLDraw, nLPick, nLCommon, nLFraction, nLLowest, nLShares, nLLook, nLLess, nLGaps, nLAsked, nLaw]
  exact ⟨cdvW hg.1 (by omega), cdvW hg.1 (by omega), q⟩

theorem cal__law_fraction {k : Nat} {f : Addr} {fd : FuncData} (F : Fun K "_law_fraction" "_law_fraction" sLFraction f fd) (g : mg "_law_fraction" = some (.ref f)) (h : FnG P w K mg base k f fd ["above", "below"] (spF K phLFraction 0)) : Cal P w K mg base k "_law_fraction" sLFraction ["above", "below"] phLFraction 0 :=
  ⟨phLFraction_mono, ⟨_, f, fd, F, g, h⟩, fun _ _ _ _ _ _ _ us hl => match us, hl with | [_, _], _ => rfl⟩
end

section
variable {P : Program} {w : World} {K : PySem.W.Frag} {mg : Str → Option Value} {base : Heap}
theorem ok__law_lowest {f : Addr} {fd : FuncData} (F : Fun K "_law_lowest" "_law_lowest" sLLowest f fd) (T : Glb mg) (c__law_common : Cal P w K mg base 1 "_law_common" sLCommon ["one", "other"] phLCommon 0) : FnG P w K mg base 2 f fd ["whole", "rows"] (spF K phLLowest 0) := by
  have nd := scLLowest.nd
  refine okQ F scLLowest (fun us Q h => phLLowest_len h) (fun cdv A outer s H B hr hgd => ?_)
  have hu := hr.units
  refine ⟨_, _, (xss_cons (xs_set 2 nd (xe_var 0))
      (xss_cons (xs_for (xf_seq (xq_e (xe_var 1))) (xg_name 3 nd)
      (xss_one (xs_for (xf_seq (xq_e (xe_var 3))) (xg_name 4 nd)
      (xss_one (xs_set 2 nd (xe_call (c__law_common.up (by decide)) hr hgd (xa_cons (xe_var 2) (xa_cons (xe_var 4) xa_nil))))))))
      (xss_one (xs_ret (xe_tup (xa_cons (xe_op op_fdivW ok_div (xe_var 0) (xe_var 2)) (xa_cons (xe_tuple (xl_o (xo_lc nd (LcP.mk (own := [("row", 3)]) (js := [3]) (xi_seq (xl_var 1)) (blkOk_by (by show blkC nLLowest (defScope sLLowest) _ _ = true; decide +kernel)) (fun _ _ _ _ _ => (xg_name 3 nd)) (fun _ _ _ _ _ => xts_nil) (fun _ _ _ _ _ => (xe_tuple (xl_o (xo_lc nd (LcP.mk (own := [("item", 4)]) (js := [4]) (xi_seq (xl_var 3)) (blkOk_by (by show blkC nLLowest ((relS _ (defScope sLLowest))) _ _ = true; decide +kernel)) (fun _ _ _ _ _ => (xg_name 4 nd)) (fun _ _ _ _ _ => xts_nil) (fun _ _ _ _ _ => (xe_op op_fdivW ok_div (xe_var 4) (xe_var 2))) (by decide) at_any))) T.g_tuple)) (by decide) at_any))) T.g_tuple) xa_nil))))))), by intro d; dsimp only; omega, fun us Q h => ?_⟩
  obtain ⟨w, d, R, rfl, hd, w1, w2, l1, l2, q⟩ := h
  have g := gW_pos (R := R) w1
  have er : R.map (fun r => PyData.tuple ((r.map (· / gW w R)).map .int)) = rowsD (lowR w R) := by
    unfold rowsD lowR
    rw [List.map_map]
    rfl
  have e0 : gcdL (w :: ([] : List (List Int)).flatten) = w := gcdL_oneW (by omega)
  rcases hd with rfl | rfl
  · simp only [mPut, gIx_0, gIx_1, gIx_2, allD_nil, allD_cons, mgUnl_l, mPar3, mAugI, mAugN, gRepO_l, gCatO_l, onFz_f, mExt, gIsB_b, mNewT, mPutT, mFreezeT, onDic_c, onTk_t, onTd_t, mLc2, gIsN_d, gIn, mAsg, mAndV, mOrV, gCh, Fd.isInt, Fd.isBl, Fd.isTup, Fd.isLst, Fd.isStr, enumD_len, mSeq, mSet, mSetO, mFor, mForD, mRet, mWhile, mPar, mParOE, mParEO, mParOO, mIfS, mDrop, mLc, mCons, mApp, mNext, mFreeze, mOr, mAnd, mIf, mNot, mB, mYes, entry, getV_v, getL_v, getL_o, onSq_l, onSq_t, onSq_s, onI_i, onIB_i, onIB_b, onB_b, onD_d, onOwn_o, onShow_d, onShowX_d, onDs, allD, gI_i, gAdd_i, gAdd_b, gSb_i, gSb_b, gMul_t, gAdd_l, gAdd_t, gAdd_s, gMul_i, gMul_l, gEq_d, gEqL, mgCons_c, mgTup_t, wipeE, List.set_cons_zero, List.set_cons_succ, List.getElem?_cons_zero, List.getElem?_cons_succ, List.map_cons, List.map_nil, List.length_cons, List.length_nil, List.replicate_succ, List.replicate_zero, List.cons_append, List.nil_append, Nat.reduceAdd, Nat.reduceSub, Nat.zero_add, Option.map_some, Option.map_none, decide_eq_true_eq, Nat.reduceLeDiff, true_and, if_true, Bool.false_eq_true, if_false, eqb_intT, eqb_strT, eqv_int, eqv_str, Bool.not_eq_true', decide_eq_false_iff_not, Bool.not_true, seqD, eqv_nil, eqv_nilT, ne_eq, reduceCtorEq, not_false_eq_true, nDivisor, nFraction, nDistances, nLPot, nLDraw, nLPick, nLCommon, nLFraction, nLLowest, nLShares, nLLook, nLLess, nLGaps, nLAsked, nLaw]
    refine forL_rec (fun ds e => ∃ (dn rs : List (List Int)) (x3 x4 : Option Sl), ds = rowsL rs ∧ dn ++ rs = R ∧ e = [some (Sl.val (U.d (.int w))), some (Sl.val (U.d (PyData.list (rowsL R)))), some (Sl.val (U.d (.int (gcdL (w :: dn.flatten))))), x3, x4]) ?_ ?_ _ _ ⟨[], R, none, none, rfl, rfl, congrArg (fun g => [some (Sl.val (U.d (.int w))), some (Sl.val (U.d (PyData.list (rowsL R)))), some (Sl.val (U.d (.int g))), none, none]) e0.symm⟩
    · rintro e ⟨dn, rs, x3, x4, hd, ha, rfl⟩
      cases rs with
      | cons r rs => cases hd
      | nil =>
        rw [List.append_nil] at ha
        subst ha
        rw [show gcdL (w :: dn.flatten) = gW w dn from rfl]
        simp only [mPut, gIx_0, gIx_1, gIx_2, allD_nil, allD_cons, mgUnl_l, mPar3, mAugI, mAugN, gRepO_l, gCatO_l, onFz_f, mExt, gIsB_b, mNewT, mPutT, mFreezeT, onDic_c, onTk_t, onTd_t, mLc2, gIsN_d, gIn, mAsg, mAndV, mOrV, gCh, Fd.isInt, Fd.isBl, Fd.isTup, Fd.isLst, Fd.isStr, enumD_len, mSeq, mSet, mSetO, mFor, mForD, mRet, mWhile, mPar, mParOE, mParEO, mParOO, mIfS, mDrop, mLc, mCons, mApp, mNext, mFreeze, mOr, mAnd, mIf, mNot, mB, mYes, entry, getV_v, getL_v, getL_o, onSq_l, onSq_t, onSq_s, onI_i, onIB_i, onIB_b, onB_b, onD_d, onOwn_o, onShow_d, onShowX_d, onDs, allD, gI_i, gAdd_i, gAdd_b, gSb_i, gSb_b, gMul_t, gAdd_l, gAdd_t, gAdd_s, gMul_i, gMul_l, gEq_d, gEqL, mgCons_c, mgTup_t, wipeE, List.set_cons_zero, List.set_cons_succ, List.getElem?_cons_zero, List.getElem?_cons_succ, List.map_cons, List.map_nil, List.length_cons, List.length_nil, List.replicate_succ, List.replicate_zero, List.cons_append, List.nil_append, Nat.reduceAdd, Nat.reduceSub, Nat.zero_add, Option.map_some, Option.map_none, decide_eq_true_eq, Nat.reduceLeDiff, true_and, if_true, Bool.false_eq_true, if_false, eqb_intT, eqb_strT, eqv_int, eqv_str, Bool.not_eq_true', decide_eq_false_iff_not, Bool.not_true, seqD, eqv_nil, eqv_nilT, ne_eq, reduceCtorEq, not_false_eq_true, nDivisor, nFraction, nDistances, nLPot, nLDraw, nLPick, nLCommon, nLFraction, nLLowest, nLShares, nLLook, nLLess, nLGaps, nLAsked, nLaw]
        refine ⟨cdvW g.1 (by omega), by show (List.map _ dn).length ≤ _; rw [List.length_map]; omega, lcGo_fun (fun r : List Int => PyData.list (r.map .int)) (fun r => .tuple ((r.map (· / gW w dn)).map .int)) dn [] (fun r hr R1 hR => ?_) ?_⟩
        · have := (l2 r hr).1
          simp only [mPut, gIx_0, gIx_1, gIx_2, allD_nil, allD_cons, mgUnl_l, mPar3, mAugI, mAugN, gRepO_l, gCatO_l, onFz_f, mExt, gIsB_b, mNewT, mPutT, mFreezeT, onDic_c, onTk_t, onTd_t, mLc2, gIsN_d, gIn, mAsg, mAndV, mOrV, gCh, Fd.isInt, Fd.isBl, Fd.isTup, Fd.isLst, Fd.isStr, enumD_len, mSeq, mSet, mSetO, mFor, mForD, mRet, mWhile, mPar, mParOE, mParEO, mParOO, mIfS, mDrop, mLc, mCons, mApp, mNext, mFreeze, mOr, mAnd, mIf, mNot, mB, mYes, entry, getV_v, getL_v, getL_o, onSq_l, onSq_t, onSq_s, onI_i, onIB_i, onIB_b, onB_b, onD_d, onOwn_o, onShow_d, onShowX_d, onDs, allD, gI_i, gAdd_i, gAdd_b, gSb_i, gSb_b, gMul_t, gAdd_l, gAdd_t, gAdd_s, gMul_i, gMul_l, gEq_d, gEqL, mgCons_c, mgTup_t, wipeE, List.set_cons_zero, List.set_cons_succ, List.getElem?_cons_zero, List.getElem?_cons_succ, List.map_cons, List.map_nil, List.length_cons, List.length_nil, List.replicate_succ, List.replicate_zero, List.cons_append, List.nil_append, Nat.reduceAdd, Nat.reduceSub, Nat.zero_add, Option.map_some, Option.map_none, decide_eq_true_eq, Nat.reduceLeDiff, true_and, if_true, Bool.false_eq_true, if_false, eqb_intT, eqb_strT, eqv_int, eqv_str, Bool.not_eq_true', decide_eq_false_iff_not, Bool.not_true, seqD, eqv_nil, eqv_nilT, ne_eq, reduceCtorEq, not_false_eq_true, nDivisor, nFraction, nDistances, nLPot, nLDraw, nLPick, nLCommon, nLFraction, nLLowest, nLShares, nLLook, nLLess, nLGaps, nLAsked, nLaw]
          refine ⟨by rw [List.length_map]; omega, lcGo_ints (fun x => .int (x / gW w dn)) r [] (fun x hx R2 hR2 => ?_) ?_⟩
          · simp only [mPut, gIx_0, gIx_1, gIx_2, allD_nil, allD_cons, mgUnl_l, mPar3, mAugI, mAugN, gRepO_l, gCatO_l, onFz_f, mExt, gIsB_b, mNewT, mPutT, mFreezeT, onDic_c, onTk_t, onTd_t, mLc2, gIsN_d, gIn, mAsg, mAndV, mOrV, gCh, Fd.isInt, Fd.isBl, Fd.isTup, Fd.isLst, Fd.isStr, enumD_len, mSeq, mSet, mSetO, mFor, mForD, mRet, mWhile, mPar, mParOE, mParEO, mParOO, mIfS, mDrop, mLc, mCons, mApp, mNext, mFreeze, mOr, mAnd, mIf, mNot, mB, mYes, entry, getV_v, getL_v, getL_o, onSq_l, onSq_t, onSq_s, onI_i, onIB_i, onIB_b, onB_b, onD_d, onOwn_o, onShow_d, onShowX_d, onDs, allD, gI_i, gAdd_i, gAdd_b, gSb_i, gSb_b, gMul_t, gAdd_l, gAdd_t, gAdd_s, gMul_i, gMul_l, gEq_d, gEqL, mgCons_c, mgTup_t, wipeE, List.set_cons_zero, List.set_cons_succ, List.getElem?_cons_zero, List.getElem?_cons_succ, List.map_cons, List.map_nil, List.length_cons, List.length_nil, List.replicate_succ, List.replicate_zero, List.cons_append, List.nil_append, Nat.reduceAdd, Nat.reduceSub, Nat.zero_add, Option.map_some, Option.map_none, decide_eq_true_eq, Nat.reduceLeDiff, true_and, if_true, Bool.false_eq_true, if_false, eqb_intT, eqb_strT, eqv_int, eqv_str, Bool.not_eq_true', decide_eq_false_iff_not, Bool.not_true, seqD, eqv_nil, eqv_nilT, ne_eq, reduceCtorEq, not_false_eq_true, nDivisor, nFraction, nDistances, nLPot, nLDraw, nLPick, nLCommon, nLFraction, nLLowest, nLShares, nLLook, nLLess, nLGaps, nLAsked, nLaw]
            exact ⟨cdvW g.1 (by omega), hR2⟩
          · rw [List.map_map] at hR
            exact hR
        · rw [List.nil_append, er]
          exact q
    · rintro d ds e R1 ⟨dn, rs, x3, x4, hd, ha, rfl⟩ hR
      cases rs with
      | nil => cases hd
      | cons r rs =>
        have hd : d :: ds = PyData.list (r.map .int) :: rowsL rs := hd
        injection hd with r1 r2
        subst r1 r2
        have hm := (l2 r (by rw [← ha]; simp)).2
        simp only [mPut, gIx_0, gIx_1, gIx_2, allD_nil, allD_cons, mgUnl_l, mPar3, mAugI, mAugN, gRepO_l, gCatO_l, onFz_f, mExt, gIsB_b, mNewT, mPutT, mFreezeT, onDic_c, onTk_t, onTd_t, mLc2, gIsN_d, gIn, mAsg, mAndV, mOrV, gCh, Fd.isInt, Fd.isBl, Fd.isTup, Fd.isLst, Fd.isStr, enumD_len, mSeq, mSet, mSetO, mFor, mForD, mRet, mWhile, mPar, mParOE, mParEO, mParOO, mIfS, mDrop, mLc, mCons, mApp, mNext, mFreeze, mOr, mAnd, mIf, mNot, mB, mYes, entry, getV_v, getL_v, getL_o, onSq_l, onSq_t, onSq_s, onI_i, onIB_i, onIB_b, onB_b, onD_d, onOwn_o, onShow_d, onShowX_d, onDs, allD, gI_i, gAdd_i, gAdd_b, gSb_i, gSb_b, gMul_t, gAdd_l, gAdd_t, gAdd_s, gMul_i, gMul_l, gEq_d, gEqL, mgCons_c, mgTup_t, wipeE, List.set_cons_zero, List.set_cons_succ, List.getElem?_cons_zero, List.getElem?_cons_succ, List.map_cons, List.map_nil, List.length_cons, List.length_nil, List.replicate_succ, List.replicate_zero, List.cons_append, List.nil_append, Nat.reduceAdd, Nat.reduceSub, Nat.zero_add, Option.map_some, Option.map_none, decide_eq_true_eq, Nat.reduceLeDiff, true_and, if_true, Bool.false_eq_true, if_false, eqb_intT, eqb_strT, eqv_int, eqv_str, Bool.not_eq_true', decide_eq_false_iff_not, Bool.not_true, seqD, eqv_nil, eqv_nilT, ne_eq, reduceCtorEq, not_false_eq_true, nDivisor, nFraction, nDistances, nLPot, nLDraw, nLPick, nLCommon, nLFraction, nLLowest, nLShares, nLLook, nLLess, nLGaps, nLAsked, nLaw]
        refine forL_rec (fun ds e => ∃ (as bs : List Int) (x4 : Option Sl), ds = bs.map .int ∧ as ++ bs = r ∧ e = [some (Sl.val (U.d (.int w))), some (Sl.val (U.d (PyData.list (rowsL R)))), some (Sl.val (U.d (.int (gcdL (w :: (dn.flatten ++ as)))))), some (Sl.val (U.d (PyData.list (r.map .int)))), x4]) ?_ ?_ _ _ ⟨[], r, x4, rfl, rfl, by rw [List.append_nil]⟩
        · rintro e ⟨as, bs, x4, hd, hb, rfl⟩
          cases bs with
          | cons b bs => cases hd
          | nil =>
            rw [List.append_nil] at hb
            subst hb
            exact hR _ ⟨dn ++ [as], rs, _, _, rfl, by rw [List.append_assoc]; exact ha, by rw [List.flatten_append, List.flatten_cons, List.flatten_nil, List.append_nil]⟩
        · rintro d ds e R2 ⟨as, bs, x4, hd, hb, rfl⟩ hR2
          cases bs with
          | nil => cases hd
          | cons b bs =>
            rw [List.map_cons] at hd
            injection hd with r1 r2
            subst r1 r2
            simp only [mPut, gIx_0, gIx_1, gIx_2, allD_nil, allD_cons, mgUnl_l, mPar3, mAugI, mAugN, gRepO_l, gCatO_l, onFz_f, mExt, gIsB_b, mNewT, mPutT, mFreezeT, onDic_c, onTk_t, onTd_t, mLc2, gIsN_d, gIn, mAsg, mAndV, mOrV, gCh, Fd.isInt, Fd.isBl, Fd.isTup, Fd.isLst, Fd.isStr, enumD_len, mSeq, mSet, mSetO, mFor, mForD, mRet, mWhile, mPar, mParOE, mParEO, mParOO, mIfS, mDrop, mLc, mCons, mApp, mNext, mFreeze, mOr, mAnd, mIf, mNot, mB, mYes, entry, getV_v, getL_v, getL_o, onSq_l, onSq_t, onSq_s, onI_i, onIB_i, onIB_b, onB_b, onD_d, onOwn_o, onShow_d, onShowX_d, onDs, allD, gI_i, gAdd_i, gAdd_b, gSb_i, gSb_b, gMul_t, gAdd_l, gAdd_t, gAdd_s, gMul_i, gMul_l, gEq_d, gEqL, mgCons_c, mgTup_t, wipeE, List.set_cons_zero, List.set_cons_succ, List.getElem?_cons_zero, List.getElem?_cons_succ, List.map_cons, List.map_nil, List.length_cons, List.length_nil, List.replicate_succ, List.replicate_zero, List.cons_append, List.nil_append, Nat.reduceAdd, Nat.reduceSub, Nat.zero_add, Option.map_some, Option.map_none, decide_eq_true_eq, Nat.reduceLeDiff, true_and, if_true, Bool.false_eq_true, if_false, eqb_intT, eqb_strT, eqv_int, eqv_str, Bool.not_eq_true', decide_eq_false_iff_not, Bool.not_true, seqD, eqv_nil, eqv_nilT, ne_eq, reduceCtorEq, not_false_eq_true, nDivisor, nFraction, nDistances, nLPot, nLDraw, nLPick, nLCommon, nLFraction, nLLowest, nLShares, nLLook, nLLess, nLGaps, nLAsked, nLaw]
            refine ⟨_, b, rfl, gcdL_nn _, hm b (by rw [← hb]; simp), ?_⟩
            rw [gcdF_L, List.append_assoc]
            exact hR2 _ ⟨as ++ [b], bs, _, rfl, by rw [List.append_assoc]; exact hb, rfl⟩
  · simp only [mPut, gIx_0, gIx_1, gIx_2, allD_nil, allD_cons, mgUnl_l, mPar3, mAugI, mAugN, gRepO_l, gCatO_l, onFz_f, mExt, gIsB_b, mNewT, mPutT, mFreezeT, onDic_c, onTk_t, onTd_t, mLc2, gIsN_d, gIn, mAsg, mAndV, mOrV, gCh, Fd.isInt, Fd.isBl, Fd.isTup, Fd.isLst, Fd.isStr, enumD_len, mSeq, mSet, mSetO, mFor, mForD, mRet, mWhile, mPar, mParOE, mParEO, mParOO, mIfS, mDrop, mLc, mCons, mApp, mNext, mFreeze, mOr, mAnd, mIf, mNot, mB, mYes, entry, getV_v, getL_v, getL_o, onSq_l, onSq_t, onSq_s, onI_i, onIB_i, onIB_b, onB_b, onD_d, onOwn_o, onShow_d, onShowX_d, onDs, allD, gI_i, gAdd_i, gAdd_b, gSb_i, gSb_b, gMul_t, gAdd_l, gAdd_t, gAdd_s, gMul_i, gMul_l, gEq_d, gEqL, mgCons_c, mgTup_t, wipeE, List.set_cons_zero, List.set_cons_succ, List.getElem?_cons_zero, List.getElem?_cons_succ, List.map_cons, List.map_nil, List.length_cons, List.length_nil, List.replicate_succ, List.replicate_zero, List.cons_append, List.nil_append, Nat.reduceAdd, Nat.reduceSub, Nat.zero_add, Option.map_some, Option.map_none, decide_eq_true_eq, Nat.reduceLeDiff, true_and, if_true, Bool.false_eq_true, if_false, eqb_intT, eqb_strT, eqv_int, eqv_str, Bool.not_eq_true', decide_eq_false_iff_not, Bool.not_true, seqD, eqv_nil, eqv_nilT, ne_eq, reduceCtorEq, not_false_eq_true, nDivisor, nFraction, nDistances, nLPot, nLDraw, nLPick, nLCommon, nLFraction, nLLowest, nLShares, nLLook, nLLess, nLGaps, nLAsked, nLaw]
    refine forL_rec (fun ds e => ∃ (dn rs : List (List Int)) (x3 x4 : Option Sl), ds = rowsD rs ∧ dn ++ rs = R ∧ e = [some (Sl.val (U.d (.int w))), some (Sl.val (U.d (PyData.tuple (rowsD R)))), some (Sl.val (U.d (.int (gcdL (w :: dn.flatten))))), x3, x4]) ?_ ?_ _ _ ⟨[], R, none, none, rfl, rfl, congrArg (fun g => [some (Sl.val (U.d (.int w))), some (Sl.val (U.d (PyData.tuple (rowsD R)))), some (Sl.val (U.d (.int g))), none, none]) e0.symm⟩
    · rintro e ⟨dn, rs, x3, x4, hd, ha, rfl⟩
      cases rs with
      | cons r rs => cases hd
      | nil =>
        rw [List.append_nil] at ha
        subst ha
        rw [show gcdL (w :: dn.flatten) = gW w dn from rfl]
        simp only [mPut, gIx_0, gIx_1, gIx_2, allD_nil, allD_cons, mgUnl_l, mPar3, mAugI, mAugN, gRepO_l, gCatO_l, onFz_f, mExt, gIsB_b, mNewT, mPutT, mFreezeT, onDic_c, onTk_t, onTd_t, mLc2, gIsN_d, gIn, mAsg, mAndV, mOrV, gCh, Fd.isInt, Fd.isBl, Fd.isTup, Fd.isLst, Fd.isStr, enumD_len, mSeq, mSet, mSetO, mFor, mForD, mRet, mWhile, mPar, mParOE, mParEO, mParOO, mIfS, mDrop, mLc, mCons, mApp, mNext, mFreeze, mOr, mAnd, mIf, mNot, mB, mYes, entry, getV_v, getL_v, getL_o, onSq_l, onSq_t, onSq_s, onI_i, onIB_i, onIB_b, onB_b, onD_d, onOwn_o, onShow_d, onShowX_d, onDs, allD, gI_i, gAdd_i, gAdd_b, gSb_i, gSb_b, gMul_t, gAdd_l, gAdd_t, gAdd_s, gMul_i, gMul_l, gEq_d, gEqL, mgCons_c, mgTup_t, wipeE, List.set_cons_zero, List.set_cons_succ, List.getElem?_cons_zero, List.getElem?_cons_succ, List.map_cons, List.map_nil, List.length_cons, List.length_nil, List.replicate_succ, List.replicate_zero, List.cons_append, List.nil_append, Nat.reduceAdd, Nat.reduceSub, Nat.zero_add, Option.map_some, Option.map_none, decide_eq_true_eq, Nat.reduceLeDiff, true_and, if_true, Bool.false_eq_true, if_false, eqb_intT, eqb_strT, eqv_int, eqv_str, Bool.not_eq_true', decide_eq_false_iff_not, Bool.not_true, seqD, eqv_nil, eqv_nilT, ne_eq, reduceCtorEq, not_false_eq_true, nDivisor, nFraction, nDistances, nLPot, nLDraw, nLPick, nLCommon, nLFraction, nLLowest, nLShares, nLLook, nLLess, nLGaps, nLAsked, nLaw]
        refine ⟨cdvW g.1 (by omega), by show (List.map _ dn).length ≤ _; rw [List.length_map]; omega, lcGo_fun (fun r : List Int => PyData.tuple (r.map .int)) (fun r => .tuple ((r.map (· / gW w dn)).map .int)) dn [] (fun r hr R1 hR => ?_) ?_⟩
        · have := (l2 r hr).1
          simp only [mPut, gIx_0, gIx_1, gIx_2, allD_nil, allD_cons, mgUnl_l, mPar3, mAugI, mAugN, gRepO_l, gCatO_l, onFz_f, mExt, gIsB_b, mNewT, mPutT, mFreezeT, onDic_c, onTk_t, onTd_t, mLc2, gIsN_d, gIn, mAsg, mAndV, mOrV, gCh, Fd.isInt, Fd.isBl, Fd.isTup, Fd.isLst, Fd.isStr, enumD_len, mSeq, mSet, mSetO, mFor, mForD, mRet, mWhile, mPar, mParOE, mParEO, mParOO, mIfS, mDrop, mLc, mCons, mApp, mNext, mFreeze, mOr, mAnd, mIf, mNot, mB, mYes, entry, getV_v, getL_v, getL_o, onSq_l, onSq_t, onSq_s, onI_i, onIB_i, onIB_b, onB_b, onD_d, onOwn_o, onShow_d, onShowX_d, onDs, allD, gI_i, gAdd_i, gAdd_b, gSb_i, gSb_b, gMul_t, gAdd_l, gAdd_t, gAdd_s, gMul_i, gMul_l, gEq_d, gEqL, mgCons_c, mgTup_t, wipeE, List.set_cons_zero, List.set_cons_succ, List.getElem?_cons_zero, List.getElem?_cons_succ, List.map_cons, List.map_nil, List.length_cons, List.length_nil, List.replicate_succ, List.replicate_zero, List.cons_append, List.nil_append, Nat.reduceAdd, Nat.reduceSub, Nat.zero_add, Option.map_some, Option.map_none, decide_eq_true_eq, Nat.reduceLeDiff, true_and, if_true, Bool.false_eq_true, if_false, eqb_intT, eqb_strT, eqv_int, eqv_str, Bool.not_eq_true', decide_eq_false_iff_not, Bool.not_true, seqD, eqv_nil, eqv_nilT, ne_eq, reduceCtorEq, not_false_eq_true, nDivisor, nFraction, nDistances, nLPot, nLDraw, nLPick, nLCommon, nLFraction, nLLowest, nLShares, nLLook, nLLess, nLGaps, nLAsked, nLaw]
          refine ⟨by rw [List.length_map]; omega, lcGo_ints (fun x => .int (x / gW w dn)) r [] (fun x hx R2 hR2 => ?_) ?_⟩
          · simp only [mPut, gIx_0, gIx_1, gIx_2, allD_nil, allD_cons, mgUnl_l, mPar3, mAugI, mAugN, gRepO_l, gCatO_l, onFz_f, mExt, gIsB_b, mNewT, mPutT, mFreezeT, onDic_c, onTk_t, onTd_t, mLc2, gIsN_d, gIn, mAsg, mAndV, mOrV, gCh, Fd.isInt, Fd.isBl, Fd.isTup, Fd.isLst, Fd.isStr, enumD_len, mSeq, mSet, mSetO, mFor, mForD, mRet, mWhile, mPar, mParOE, mParEO, mParOO, mIfS, mDrop, mLc, mCons, mApp, mNext, mFreeze, mOr, mAnd, mIf, mNot, mB, mYes, entry, getV_v, getL_v, getL_o, onSq_l, onSq_t, onSq_s, onI_i, onIB_i, onIB_b, onB_b, onD_d, onOwn_o, onShow_d, onShowX_d, onDs, allD, gI_i, gAdd_i, gAdd_b, gSb_i, gSb_b, gMul_t, gAdd_l, gAdd_t, gAdd_s, gMul_i, gMul_l, gEq_d, gEqL, mgCons_c, mgTup_t, wipeE, List.set_cons_zero, List.set_cons_succ, List.getElem?_cons_zero, List.getElem?_cons_succ, List.map_cons, List.map_nil, List.length_cons, List.length_nil, List.replicate_succ, List.replicate_zero, List.cons_append, List.nil_append, Nat.reduceAdd, Nat.reduceSub, Nat.zero_add, Option.map_some, Option.map_none, decide_eq_true_eq, Nat.reduceLeDiff, true_and, if_true, Bool.false_eq_true, if_false, eqb_intT, eqb_strT, eqv_int, eqv_str, Bool.not_eq_true', decide_eq_false_iff_not, Bool.not_true, seqD, eqv_nil, eqv_nilT, ne_eq, reduceCtorEq, not_false_eq_true, nDivisor, nFraction, nDistances, nLPot, nLDraw, nLPick, nLCommon, nLFraction, nLLowest, nLShares, nLLook, nLLess, nLGaps, nLAsked, nLaw]
            exact ⟨cdvW g.1 (by omega), hR2⟩
          · rw [List.map_map] at hR
            exact hR
        · rw [List.nil_append, er]
          exact q
    · rintro d ds e R1 ⟨dn, rs, x3, x4, hd, ha, rfl⟩ hR
      cases rs with
      | nil => cases hd
      | cons r rs =>
        have hd : d :: ds = PyData.tuple (r.map .int) :: rowsD rs := hd
        injection hd with r1 r2
        subst r1 r2
        have hm := (l2 r (by rw [← ha]; simp)).2
        simp only [mPut, gIx_0, gIx_1, gIx_2, allD_nil, allD_cons, mgUnl_l, mPar3, mAugI, mAugN, gRepO_l, gCatO_l, onFz_f, mExt, gIsB_b, mNewT, mPutT, mFreezeT, onDic_c, onTk_t, onTd_t, mLc2, gIsN_d, gIn, mAsg, mAndV, mOrV, gCh, Fd.isInt, Fd.isBl, Fd.isTup, Fd.isLst, Fd.isStr, enumD_len, mSeq, mSet, mSetO, mFor, mForD, mRet, mWhile, mPar, mParOE, mParEO, mParOO, mIfS, mDrop, mLc, mCons, mApp, mNext, mFreeze, mOr, mAnd, mIf, mNot, mB, mYes, entry, getV_v, getL_v, getL_o, onSq_l, onSq_t, onSq_s, onI_i, onIB_i, onIB_b, onB_b, onD_d, onOwn_o, onShow_d, onShowX_d, onDs, allD, gI_i, gAdd_i, gAdd_b, gSb_i, gSb_b, gMul_t, gAdd_l, gAdd_t, gAdd_s, gMul_i, gMul_l, gEq_d, gEqL, mgCons_c, mgTup_t, wipeE, List.set_cons_zero, List.set_cons_succ, List.getElem?_cons_zero, List.getElem?_cons_succ, List.map_cons, List.map_nil, List.length_cons, List.length_nil, List.replicate_succ, List.replicate_zero, List.cons_append, List.nil_append, Nat.reduceAdd, Nat.reduceSub, Nat.zero_add, Option.map_some, Option.map_none, decide_eq_true_eq, Nat.reduceLeDiff, true_and, if_true, Bool.false_eq_true, if_false, eqb_intT, eqb_strT, eqv_int, eqv_str, Bool.not_eq_true', decide_eq_false_iff_not, Bool.not_true, seqD, eqv_nil, eqv_nilT, ne_eq, reduceCtorEq, not_false_eq_true, nDivisor, nFraction, nDistances, nLPot, nLDraw, nLPick, nLCommon, nLFraction, nLLowest, nLShares, nLLook, nLLess, nLGaps, nLAsked, nLaw]
        refine forL_rec (fun ds e => ∃ (as bs : List Int) (x4 : Option Sl), ds = bs.map .int ∧ as ++ bs = r ∧ e = [some (Sl.val (U.d (.int w))), some (Sl.val (U.d (PyData.tuple (rowsD R)))), some (Sl.val (U.d (.int (gcdL (w :: (dn.flatten ++ as)))))), some (Sl.val (U.d (PyData.tuple (r.map .int)))), x4]) ?_ ?_ _ _ ⟨[], r, x4, rfl, rfl, by rw [List.append_nil]⟩
        · rintro e ⟨as, bs, x4, hd, hb, rfl⟩
          cases bs with
          | cons b bs => cases hd
          | nil =>
            rw [List.append_nil] at hb
            subst hb
            exact hR _ ⟨dn ++ [as], rs, _, _, rfl, by rw [List.append_assoc]; exact ha, by rw [List.flatten_append, List.flatten_cons, List.flatten_nil, List.append_nil]⟩
        · rintro d ds e R2 ⟨as, bs, x4, hd, hb, rfl⟩ hR2
          cases bs with
          | nil => cases hd
          | cons b bs =>
            rw [List.map_cons] at hd
            injection hd with r1 r2
            subst r1 r2
            simp only [mPut, gIx_0, gIx_1, gIx_2, allD_nil, allD_cons, mgUnl_l, mPar3, mAugI, mAugN, gRepO_l, gCatO_l, onFz_f, mExt, gIsB_b, mNewT, mPutT, mFreezeT, onDic_c, onTk_t, onTd_t, mLc2, gIsN_d, gIn, mAsg, mAndV, mOrV, gCh, Fd.isInt, Fd.isBl, Fd.isTup, Fd.isLst, Fd.isStr, enumD_len, mSeq, mSet, mSetO, mFor, mForD, mRet, mWhile, mPar, mParOE, mParEO, mParOO, mIfS, mDrop, mLc, mCons, mApp, mNext, mFreeze, mOr, mAnd, mIf, mNot, mB, mYes, entry, getV_v, getL_v, getL_o, onSq_l, onSq_t, onSq_s, onI_i, onIB_i, onIB_b, onB_b, onD_d, onOwn_o, onShow_d, onShowX_d, onDs, allD, gI_i, gAdd_i, gAdd_b, gSb_i, gSb_b, gMul_t, gAdd_l, gAdd_t, gAdd_s, gMul_i, gMul_l, gEq_d, gEqL, mgCons_c, mgTup_t, wipeE, List.set_cons_zero, List.set_cons_succ, List.getElem?_cons_zero, List.getElem?_cons_succ, List.map_cons, List.map_nil, List.length_cons, List.length_nil, List.replicate_succ, List.replicate_zero, List.cons_append, List.nil_append, Nat.reduceAdd, Nat.reduceSub, Nat.zero_add, Option.map_some, Option.map_none, decide_eq_true_eq, Nat.reduceLeDiff, true_and, if_true, Bool.false_eq_true, if_false, eqb_intT, eqb_strT, eqv_int, eqv_str, Bool.not_eq_true', decide_eq_false_iff_not, Bool.not_true, seqD, eqv_nil, eqv_nilT, ne_eq, reduceCtorEq, not_false_eq_true, nDivisor, nFraction, nDistances, nLPot, nLDraw, nLPick, nLCommon, nLFraction, nLLowest, nLShares, nLLook, nLLess, nLGaps, nLAsked, nLaw]
            refine ⟨_, b, rfl, gcdL_nn _, hm b (by rw [← hb]; simp), ?_⟩
            rw [gcdF_L, List.append_assoc]
            exact hR2 _ ⟨as ++ [b], bs, _, rfl, by rw [List.append_assoc]; exact hb, rfl⟩

theorem cal__law_lowest {k : Nat} {f : Addr} {fd : FuncData} (F : Fun K "_law_lowest" "_law_lowest" sLLowest f fd) (g : mg "_law_lowest" = some (.ref f)) (h : FnG P w K mg base k f fd ["whole", "rows"] (spF K phLLowest 0)) : Cal P w K mg base k "_law_lowest" sLLowest ["whole", "rows"] phLLowest 0 :=
  ⟨phLLowest_mono, ⟨_, f, fd, F, g, h⟩, fun _ _ _ _ _ _ _ us hl => match us, hl with | [_, _], _ => rfl⟩
end

section
variable {P : Program} {w : World} {K : PySem.W.Frag} {mg : Str → Option Value} {base : Heap}
theorem ok__law_shares {f : Addr} {fd : FuncData} (F : Fun K "_law_shares" "_law_shares" sLShares f fd) (T : Glb mg) (c__law_draw : Cal P w K mg base 1 "_law_draw" sLDraw ["pot", "many"] phLDraw 1) (c__law_pick : Cal P w K mg base 2 "_law_pick" sLPick ["pot", "row"] phLPick 1) : FnG P w K mg base 3 f fd ["pot", "whole", "many"] (spF K phLShares 2000001) := by
  have nd := scLShares.nd
  refine okQ F scLShares (fun us Q h => phLShares_len h) (fun cdv A outer s H B hr hgd => ?_)
  have hu := hr.units
  refine ⟨_, _, (xss_cons (xs_set 3 nd (xe_o (xo_sorted (xl_o (xo_lc nd (LcP.mk (own := [("k", 4)]) (js := [4]) (XF.xi (xf_range1 (xe_op op_sb ok_sb (xe_var 2) xe_int) T.g_range)) (blkOk_by (by show blkC nLShares (defScope sLShares) _ _ = true; decide +kernel)) (fun _ _ _ _ _ => (xg_name 4 nd)) (fun _ _ _ _ _ => xts_nil) (fun _ _ _ _ _ => (xe_call (c__law_draw.up (by decide)) hr hgd (xa_cons (xe_var 0) (xa_cons (xe_op op_ad ok_add (xe_var 1) xe_int) xa_nil)))) (by decide) at_any))) T.g_sorted)))
      (xss_cons (xs_if (xt_cmp (op_eqP hu) ok_eq (xe_call (c__law_draw.up (by decide)) hr hgd (xa_cons (xe_var 0) (xa_cons xe_int xa_nil))) xe_int) (xss_one (xs_set 3 nd (xe_o (xo_sorted (xl_o (xo_lc nd (LcP.mk (own := [("k", 4)]) (js := [4]) (XF.xi (xf_range1 (xe_op op_sb ok_sb (xe_var 2) xe_int) T.g_range)) (blkOk_by (by show blkC nLShares (defScope sLShares) _ _ = true; decide +kernel)) (fun _ _ _ _ _ => (xg_name 4 nd)) (fun _ _ _ _ _ => xts_nil) (fun _ _ _ _ _ => (xe_call (c__law_pick.up (by decide)) hr hgd (xa_cons (xe_var 0) (xa_cons (xe_o (xo_lst (xa_cons xe_int (xa_cons (xe_var 1) (xa_cons (xe_op op_fdivW ok_div (xe_var 1) xe_int) xa_nil))))) xa_nil)))) (by decide) at_any))) T.g_sorted))))
      xss_nil)
      (xss_one (xs_ret (xe_tuple (xl_o (xo_lc nd (LcP.mk (own := [("here", 5), ("there", 6)]) (js := ([5] ++ ([6] ++ []))) (xi_zip (xl_o (xo_cat (xe_o (xo_lst (xa_cons xe_int xa_nil))) (xe_var 3))) (xl_o (xo_cat (xe_var 3) (xe_o (xo_lst (xa_cons (xe_var 1) xa_nil))))) T.g_zip) (blkOk_by (by show blkC nLShares (defScope sLShares) _ _ = true; decide +kernel)) (fun _ _ _ _ _ => (xg_tup (n := 2) (xgs_cons (xg_name 5 nd) (xgs_cons (xg_name 6 nd) xgs_nil)))) (fun _ _ _ _ _ => xts_nil) (fun _ _ _ _ _ => (xe_op op_sb ok_sb (xe_var 6) (xe_var 5))) (by decide) at_any))) T.g_tuple))))), by intro d; dsimp only; omega, fun us Q h => ?_⟩
  obtain ⟨whole, many, rfl, a, b, c, d, q⟩ := h
  simp only [mPut, gIx_0, gIx_1, gIx_2, allD_nil, allD_cons, mgUnl_l, mPar3, mAugI, mAugN, gRepO_l, gCatO_l, onFz_f, mExt, gIsB_b, mNewT, mPutT, mFreezeT, onDic_c, onTk_t, onTd_t, mLc2, gIsN_d, gIn, mAsg, mAndV, mOrV, gCh, Fd.isInt, Fd.isBl, Fd.isTup, Fd.isLst, Fd.isStr, enumD_len, mSeq, mSet, mSetO, mFor, mForD, mRet, mWhile, mPar, mParOE, mParEO, mParOO, mIfS, mDrop, mLc, mCons, mApp, mNext, mFreeze, mOr, mAnd, mIf, mNot, mB, mYes, entry, getV_v, getL_v, getL_o, onSq_l, onSq_t, onSq_s, onI_i, onIB_i, onIB_b, onB_b, onD_d, onOwn_o, onShow_d, onShowX_d, onDs, allD, gI_i, gAdd_i, gAdd_b, gSb_i, gSb_b, gMul_t, gAdd_l, gAdd_t, gAdd_s, gMul_i, gMul_l, gEq_d, gEqL, mgCons_c, mgTup_t, wipeE, List.set_cons_zero, List.set_cons_succ, List.getElem?_cons_zero, List.getElem?_cons_succ, List.map_cons, List.map_nil, List.length_cons, List.length_nil, List.replicate_succ, List.replicate_zero, List.cons_append, List.nil_append, Nat.reduceAdd, Nat.reduceSub, Nat.zero_add, Option.map_some, Option.map_none, decide_eq_true_eq, Nat.reduceLeDiff, true_and, if_true, Bool.false_eq_true, if_false, eqb_intT, eqb_strT, eqv_int, eqv_str, Bool.not_eq_true', decide_eq_false_iff_not, Bool.not_true, seqD, eqv_nil, eqv_nilT, ne_eq, reduceCtorEq, not_false_eq_true, nDivisor, nFraction, nDistances, nLPot, nLDraw, nLPick, nLCommon, nLFraction, nLLowest, nLShares, nLLook, nLLess, nLGaps, nLAsked, nLaw]
  have fin : ∀ (cs ls : List Int), ls.Perm cs → ls.Pairwise (· ≤ ·) → cs.length = many.toNat - 1 → (∀ x ∈ cs, 0 ≤ x ∧ x ≤ whole) → IsParts whole many.toNat (stepsL 0 ls whole) := fun cs ls hperm hsort hlen hc => by
    have hl := hperm.length_eq
    have hm : ∀ l ∈ ls, 0 ≤ l ∧ l ≤ whole := fun l h => hc l (hperm.mem_iff.mp h)
    refine ⟨?_, fun n hn => stepsL_mem ls 0 whole (Int.le_refl 0) a hsort hm n hn, ?_⟩
    · rw [stepsL_len]; omega
    · rw [stepsL_sum]; omega
  refine ⟨⟨by omega, by omega⟩, by rw [rngD_len]; omega, lcGo_gen (fun x => ∃ i, x = .int i ∧ 0 ≤ i ∧ i ≤ whole) _ (fun d hd R hR => ?_) fun es hes hp => ?_⟩
  · simp only [mPut, gIx_0, gIx_1, gIx_2, allD_nil, allD_cons, mgUnl_l, mPar3, mAugI, mAugN, gRepO_l, gCatO_l, onFz_f, mExt, gIsB_b, mNewT, mPutT, mFreezeT, onDic_c, onTk_t, onTd_t, mLc2, gIsN_d, gIn, mAsg, mAndV, mOrV, gCh, Fd.isInt, Fd.isBl, Fd.isTup, Fd.isLst, Fd.isStr, enumD_len, mSeq, mSet, mSetO, mFor, mForD, mRet, mWhile, mPar, mParOE, mParEO, mParOO, mIfS, mDrop, mLc, mCons, mApp, mNext, mFreeze, mOr, mAnd, mIf, mNot, mB, mYes, entry, getV_v, getL_v, getL_o, onSq_l, onSq_t, onSq_s, onI_i, onIB_i, onIB_b, onB_b, onD_d, onOwn_o, onShow_d, onShowX_d, onDs, allD, gI_i, gAdd_i, gAdd_b, gSb_i, gSb_b, gMul_t, gAdd_l, gAdd_t, gAdd_s, gMul_i, gMul_l, gEq_d, gEqL, mgCons_c, mgTup_t, wipeE, List.set_cons_zero, List.set_cons_succ, List.getElem?_cons_zero, List.getElem?_cons_succ, List.map_cons, List.map_nil, List.length_cons, List.length_nil, List.replicate_succ, List.replicate_zero, List.cons_append, List.nil_append, Nat.reduceAdd, Nat.reduceSub, Nat.zero_add, Option.map_some, Option.map_none, decide_eq_true_eq, Nat.reduceLeDiff, true_and, if_true, Bool.false_eq_true, if_false, eqb_intT, eqb_strT, eqv_int, eqv_str, Bool.not_eq_true', decide_eq_false_iff_not, Bool.not_true, seqD, eqv_nil, eqv_nilT, ne_eq, reduceCtorEq, not_false_eq_true, nDivisor, nFraction, nDistances, nLPot, nLDraw, nLPick, nLCommon, nLFraction, nLLowest, nLShares, nLLook, nLLess, nLGaps, nLAsked, nLaw]
    exact ⟨_, rfl, by omega, by omega, fun k k0 k1 => hR _ ⟨k, rfl, k0, by omega⟩⟩
  · obtain ⟨cs, rfl, hc⟩ := ints_of hp
    rw [rngD_len, List.length_map] at hes
    rw [onIs_iff]
    intro ls hperm hsort
    have tail : ∀ (cs ls : List Int), ls.Perm cs → ls.Pairwise (· ≤ ·) → cs.length = many.toNat - 1 → (∀ x ∈ cs, 0 ≤ x ∧ x ≤ whole) → Fits (1 + (List.map PyData.int ls).length) ∧ Fits ((List.map PyData.int ls).length + 1) ∧ sameK Kd.lst Kd.lst = true ∧
        (zipD (PyData.int 0 :: List.map PyData.int ls) (List.map PyData.int ls ++ [PyData.int whole])).length ≤ 1000000 ∧
          lcGo (mgTup 2 (mgCons (fun u e Q => Q (List.set e 5 (some (Sl.val u)))) (mgCons (fun u e Q => Q (List.set e 6 (some (Sl.val u)))) fun ds e Q => ds = [] ∧ Q e))) mYes (fun e Q => getV e[6]? fun u => getV e[5]? fun w => gSb u w Q)
              [some (Sl.val U.pot), some (Sl.val (U.d (PyData.int whole))), some (Sl.val (U.d (PyData.int many))), some (Sl.val (U.d (PyData.list (List.map PyData.int ls)))), none, none, none]
              (fun ds => Q (U.d (PyData.tuple ds))) (zipD (PyData.int 0 :: List.map PyData.int ls) (List.map PyData.int ls ++ [PyData.int whole])) [] := fun cs ls h1 h2 h3 h4 => by
      have hl := h1.length_eq
      have e1 : PyData.int 0 :: List.map PyData.int ls = (0 :: ls).map .int := rfl
      have e2 : List.map PyData.int ls ++ [PyData.int whole] = (ls ++ [whole]).map .int := by rw [List.map_append]; rfl
      rw [e1, e2, zipD_map]
      refine ⟨⟨by rw [List.length_map]; omega⟩, ⟨by rw [List.length_map]; omega⟩, rfl, ?_, lcGo_fun _ (fun p : Int × Int => .int (p.2 - p.1)) _ _ (fun p hp R hR => ?_) ?_⟩
      · have := stepsL_len ls 0 whole
        unfold stepsL at this
        rw [List.length_map] at this ⊢
        omega
      · simp only [mPut, gIx_0, gIx_1, gIx_2, allD_nil, allD_cons, mgUnl_l, mPar3, mAugI, mAugN, gRepO_l, gCatO_l, onFz_f, mExt, gIsB_b, mNewT, mPutT, mFreezeT, onDic_c, onTk_t, onTd_t, mLc2, gIsN_d, gIn, mAsg, mAndV, mOrV, gCh, Fd.isInt, Fd.isBl, Fd.isTup, Fd.isLst, Fd.isStr, enumD_len, mSeq, mSet, mSetO, mFor, mForD, mRet, mWhile, mPar, mParOE, mParEO, mParOO, mIfS, mDrop, mLc, mCons, mApp, mNext, mFreeze, mOr, mAnd, mIf, mNot, mB, mYes, entry, getV_v, getL_v, getL_o, onSq_l, onSq_t, onSq_s, onI_i, onIB_i, onIB_b, onB_b, onD_d, onOwn_o, onShow_d, onShowX_d, onDs, allD, gI_i, gAdd_i, gAdd_b, gSb_i, gSb_b, gMul_t, gAdd_l, gAdd_t, gAdd_s, gMul_i, gMul_l, gEq_d, gEqL, mgCons_c, mgTup_t, wipeE, List.set_cons_zero, List.set_cons_succ, List.getElem?_cons_zero, List.getElem?_cons_succ, List.map_cons, List.map_nil, List.length_cons, List.length_nil, List.replicate_succ, List.replicate_zero, List.cons_append, List.nil_append, Nat.reduceAdd, Nat.reduceSub, Nat.zero_add, Option.map_some, Option.map_none, decide_eq_true_eq, Nat.reduceLeDiff, true_and, if_true, Bool.false_eq_true, if_false, eqb_intT, eqb_strT, eqv_int, eqv_str, Bool.not_eq_true', decide_eq_false_iff_not, Bool.not_true, seqD, eqv_nil, eqv_nilT, ne_eq, reduceCtorEq, not_false_eq_true, nDivisor, nFraction, nDistances, nLPot, nLDraw, nLPick, nLCommon, nLFraction, nLLowest, nLShares, nLLook, nLLess, nLGaps, nLAsked, nLaw]
        exact hR
      · have e3 : ((0 :: ls).zip (ls ++ [whole])).map (fun p : Int × Int => PyData.int (p.2 - p.1)) = (stepsL 0 ls whole).map .int := by
          unfold stepsL
          rw [List.map_map]
          rfl
        rw [List.nil_append, e3]
        exact q _ (fin cs ls h1 h2 h3 h4)
    refine ⟨4, rfl, by decide, by decide, fun k k0 k1 => ?_⟩
    simp only [mPut, gIx_0, gIx_1, gIx_2, allD_nil, allD_cons, mgUnl_l, mPar3, mAugI, mAugN, gRepO_l, gCatO_l, onFz_f, mExt, gIsB_b, mNewT, mPutT, mFreezeT, onDic_c, onTk_t, onTd_t, mLc2, gIsN_d, gIn, mAsg, mAndV, mOrV, gCh, Fd.isInt, Fd.isBl, Fd.isTup, Fd.isLst, Fd.isStr, enumD_len, mSeq, mSet, mSetO, mFor, mForD, mRet, mWhile, mPar, mParOE, mParEO, mParOO, mIfS, mDrop, mLc, mCons, mApp, mNext, mFreeze, mOr, mAnd, mIf, mNot, mB, mYes, entry, getV_v, getL_v, getL_o, onSq_l, onSq_t, onSq_s, onI_i, onIB_i, onIB_b, onB_b, onD_d, onOwn_o, onShow_d, onShowX_d, onDs, allD, gI_i, gAdd_i, gAdd_b, gSb_i, gSb_b, gMul_t, gAdd_l, gAdd_t, gAdd_s, gMul_i, gMul_l, gEq_d, gEqL, mgCons_c, mgTup_t, wipeE, List.set_cons_zero, List.set_cons_succ, List.getElem?_cons_zero, List.getElem?_cons_succ, List.map_cons, List.map_nil, List.length_cons, List.length_nil, List.replicate_succ, List.replicate_zero, List.cons_append, List.nil_append, Nat.reduceAdd, Nat.reduceSub, Nat.zero_add, Option.map_some, Option.map_none, decide_eq_true_eq, Nat.reduceLeDiff, true_and, if_true, Bool.false_eq_true, if_false, eqb_intT, eqb_strT, eqv_int, eqv_str, Bool.not_eq_true', decide_eq_false_iff_not, Bool.not_true, seqD, eqv_nil, eqv_nilT, ne_eq, reduceCtorEq, not_false_eq_true, nDivisor, nFraction, nDistances, nLPot, nLDraw, nLPick, nLCommon, nLFraction, nLLowest, nLShares, nLLook, nLLess, nLGaps, nLAsked, nLaw]
    by_cases hk : k = 0
    · rw [if_pos hk]
      refine ⟨⟨by omega, by omega⟩, by rw [rngD_len]; omega, lcGo_gen (fun x => ∃ i, x = .int i ∧ 0 ≤ i ∧ i ≤ whole) _ (fun d hd R hR => ?_) fun es hes2 hp2 => ?_⟩
      · simp only [mPut, gIx_0, gIx_1, gIx_2, allD_nil, allD_cons, mgUnl_l, mPar3, mAugI, mAugN, gRepO_l, gCatO_l, onFz_f, mExt, gIsB_b, mNewT, mPutT, mFreezeT, onDic_c, onTk_t, onTd_t, mLc2, gIsN_d, gIn, mAsg, mAndV, mOrV, gCh, Fd.isInt, Fd.isBl, Fd.isTup, Fd.isLst, Fd.isStr, enumD_len, mSeq, mSet, mSetO, mFor, mForD, mRet, mWhile, mPar, mParOE, mParEO, mParOO, mIfS, mDrop, mLc, mCons, mApp, mNext, mFreeze, mOr, mAnd, mIf, mNot, mB, mYes, entry, getV_v, getL_v, getL_o, onSq_l, onSq_t, onSq_s, onI_i, onIB_i, onIB_b, onB_b, onD_d, onOwn_o, onShow_d, onShowX_d, onDs, allD, gI_i, gAdd_i, gAdd_b, gSb_i, gSb_b, gMul_t, gAdd_l, gAdd_t, gAdd_s, gMul_i, gMul_l, gEq_d, gEqL, mgCons_c, mgTup_t, wipeE, List.set_cons_zero, List.set_cons_succ, List.getElem?_cons_zero, List.getElem?_cons_succ, List.map_cons, List.map_nil, List.length_cons, List.length_nil, List.replicate_succ, List.replicate_zero, List.cons_append, List.nil_append, Nat.reduceAdd, Nat.reduceSub, Nat.zero_add, Option.map_some, Option.map_none, decide_eq_true_eq, Nat.reduceLeDiff, true_and, if_true, Bool.false_eq_true, if_false, eqb_intT, eqb_strT, eqv_int, eqv_str, Bool.not_eq_true', decide_eq_false_iff_not, Bool.not_true, seqD, eqv_nil, eqv_nilT, ne_eq, reduceCtorEq, not_false_eq_true, nDivisor, nFraction, nDistances, nLPot, nLDraw, nLPick, nLCommon, nLFraction, nLLowest, nLShares, nLLook, nLLess, nLGaps, nLAsked, nLaw]
        refine ⟨Fd.cdv (by decide) (by decide), _, rfl, by simp, by simp, fun x hx => hR _ ?_⟩
        simp only [List.mem_cons, List.not_mem_nil, or_false] at hx
        have h0 : 0 ≤ whole / 2 := by omega
        have h1 : whole / 2 ≤ whole := by omega
        rcases hx with rfl | rfl | rfl
        · exact ⟨0, rfl, Int.le_refl 0, a⟩
        · exact ⟨whole, rfl, a, Int.le_refl _⟩
        · exact ⟨whole / 2, rfl, h0, h1⟩
      · obtain ⟨cs2, rfl, hc2⟩ := ints_of hp2
        rw [rngD_len, List.length_map] at hes2
        rw [onIs_iff]
        intro ls2 hperm2 hsort2
        exact tail cs2 ls2 hperm2 hsort2 (by omega) hc2
    · rw [if_neg hk]
      exact tail cs ls hperm hsort (by omega) hc

theorem cal__law_shares {k : Nat} {f : Addr} {fd : FuncData} (F : Fun K "_law_shares" "_law_shares" sLShares f fd) (g : mg "_law_shares" = some (.ref f)) (h : FnG P w K mg base k f fd ["pot", "whole", "many"] (spF K phLShares 2000001)) : Cal P w K mg base k "_law_shares" sLShares ["pot", "whole", "many"] phLShares 2000001 :=
  ⟨phLShares_mono, ⟨_, f, fd, F, g, h⟩, fun _ _ _ _ _ _ _ us hl => match us, hl with | [_, _, _], _ => rfl⟩
end

section
variable {P : Program} {w : World} {K : PySem.W.Frag} {mg : Str → Option Value} {base : Heap}
theorem ok__law_look {f : Addr} {fd : FuncData} (F : Fun K "_law_look" "_law_look" sLLook f fd) (T : Glb mg) (c__law_draw : Cal P w K mg base 1 "_law_draw" sLDraw ["pot", "many"] phLDraw 1) (c__law_pick : Cal P w K mg base 2 "_law_pick" sLPick ["pot", "row"] phLPick 1) (c__law_shares : Cal P w K mg base 3 "_law_shares" sLShares ["pot", "whole", "many"] phLShares 2000001) : FnG P w K mg base 4 f fd ["pot", "states", "signs"] (spF K phLLook 2000001000002) := by
  have nd := scLLook.nd
  refine okQ F scLLook (fun us Q h => phLLook_len h) (fun cdv A outer s H B hr hgd => ?_)
  have hu := hr.units
  refine ⟨_, _, (xss_cons (xs_set 3 nd (xe_call (c__law_pick.up (by decide)) hr hgd (xa_cons (xe_var 0) (xa_cons (xe_o (xo_lst (xa_cons xe_int (xa_cons xe_int (xa_cons xe_int (xa_cons xe_int (xa_cons xe_int (xa_cons xe_int (xa_cons xe_int (xa_cons xe_int (xa_cons xe_int (xa_cons xe_int (xa_cons xe_int xa_nil))))))))))))) xa_nil))))
      (xss_cons (xs_setLcO 4 nd (LcP.mk (own := [("state", 5)]) (js := [5]) (XF.xi (xf_range1 (xe_var 1) T.g_range)) (blkOk_by (by show blkC nLLook (defScope sLLook) _ _ = true; decide +kernel)) (fun _ _ _ _ _ => (xg_name 5 nd)) (fun _ _ _ _ _ => xts_nil) (fun _ _ _ _ _ => (xe_call (c__law_shares.up (by decide)) hr hgd (xa_cons (xe_var 0) (xa_cons (xe_var 3) (xa_cons (xe_var 2) xa_nil))))) (by decide) at_any))
      (xss_cons (xs_if (XW.xt (xw_and (xt_cmp op_gt ok_cI (xe_var 1) xe_int) (xw_and1 (xt_cmp (op_eqP hu) ok_eq (xe_call (c__law_draw.up (by decide)) hr hgd (xa_cons (xe_var 0) (xa_cons xe_int xa_nil))) xe_int)))) (xss_one (xs_put 4 (xe_ix (xl_var 4) xe_int) xe_int (fun ho hi ha => ps_asg ha (pg_sub ho hi set_list))))
      xss_nil)
      (xss_one (xs_ret (xe_tup (xa_cons (xe_var 3) (xa_cons (xe_tuple (xl_var 4) T.g_tuple) xa_nil)))))))), by intro d; dsimp only; omega, fun us Q h => ?_⟩
  obtain ⟨states, signs, rfl, a, b, c, d, q⟩ := h
  simp only [mPut, gIx_0, gIx_1, gIx_2, allD_nil, allD_cons, mgUnl_l, mPar3, mAugI, mAugN, gRepO_l, gCatO_l, onFz_f, mExt, gIsB_b, mNewT, mPutT, mFreezeT, onDic_c, onTk_t, onTd_t, mLc2, gIsN_d, gIn, mAsg, mAndV, mOrV, gCh, Fd.isInt, Fd.isBl, Fd.isTup, Fd.isLst, Fd.isStr, enumD_len, mSeq, mSet, mSetO, mFor, mForD, mRet, mWhile, mPar, mParOE, mParEO, mParOO, mIfS, mDrop, mLc, mCons, mApp, mNext, mFreeze, mOr, mAnd, mIf, mNot, mB, mYes, entry, getV_v, getL_v, getL_o, onSq_l, onSq_t, onSq_s, onI_i, onIB_i, onIB_b, onB_b, onD_d, onOwn_o, onShow_d, onShowX_d, onDs, allD, gI_i, gAdd_i, gAdd_b, gSb_i, gSb_b, gMul_t, gAdd_l, gAdd_t, gAdd_s, gMul_i, gMul_l, gEq_d, gEqL, mgCons_c, mgTup_t, wipeE, List.set_cons_zero, List.set_cons_succ, List.getElem?_cons_zero, List.getElem?_cons_succ, List.map_cons, List.map_nil, List.length_cons, List.length_nil, List.replicate_succ, List.replicate_zero, List.cons_append, List.nil_append, Nat.reduceAdd, Nat.reduceSub, Nat.zero_add, Option.map_some, Option.map_none, decide_eq_true_eq, Nat.reduceLeDiff, true_and, if_true, Bool.false_eq_true, if_false, eqb_intT, eqb_strT, eqv_int, eqv_str, Bool.not_eq_true', decide_eq_false_iff_not, Bool.not_true, seqD, eqv_nil, eqv_nilT, ne_eq, reduceCtorEq, not_false_eq_true, nDivisor, nFraction, nDistances, nLPot, nLDraw, nLPick, nLCommon, nLFraction, nLLowest, nLShares, nLLook, nLLess, nLGaps, nLAsked, nLaw]
  refine ⟨_, rfl, by simp, by simp, fun x hx => ?_⟩
  obtain ⟨w, rfl, w1, w6⟩ : ∃ w : Int, x = .int w ∧ 1 ≤ w ∧ w ≤ 60 := by
    simp only [List.mem_cons, List.not_mem_nil, or_false] at hx
    rcases hx with rfl | rfl | rfl | rfl | rfl | rfl | rfl | rfl | rfl | rfl | rfl <;> exact ⟨_, rfl, by decide, by decide⟩
  refine ⟨⟨by omega, by omega⟩, by rw [rngD_len]; omega, lcGo_gen (fun d => ∃ r : List Int, d = .tuple (r.map .int) ∧ IsParts w signs.toNat r) _ (fun d hd R hR => ?_) fun es hes hp => ?_⟩
  · simp only [mPut, gIx_0, gIx_1, gIx_2, allD_nil, allD_cons, mgUnl_l, mPar3, mAugI, mAugN, gRepO_l, gCatO_l, onFz_f, mExt, gIsB_b, mNewT, mPutT, mFreezeT, onDic_c, onTk_t, onTd_t, mLc2, gIsN_d, gIn, mAsg, mAndV, mOrV, gCh, Fd.isInt, Fd.isBl, Fd.isTup, Fd.isLst, Fd.isStr, enumD_len, mSeq, mSet, mSetO, mFor, mForD, mRet, mWhile, mPar, mParOE, mParEO, mParOO, mIfS, mDrop, mLc, mCons, mApp, mNext, mFreeze, mOr, mAnd, mIf, mNot, mB, mYes, entry, getV_v, getL_v, getL_o, onSq_l, onSq_t, onSq_s, onI_i, onIB_i, onIB_b, onB_b, onD_d, onOwn_o, onShow_d, onShowX_d, onDs, allD, gI_i, gAdd_i, gAdd_b, gSb_i, gSb_b, gMul_t, gAdd_l, gAdd_t, gAdd_s, gMul_i, gMul_l, gEq_d, gEqL, mgCons_c, mgTup_t, wipeE, List.set_cons_zero, List.set_cons_succ, List.getElem?_cons_zero, List.getElem?_cons_succ, List.map_cons, List.map_nil, List.length_cons, List.length_nil, List.replicate_succ, List.replicate_zero, List.cons_append, List.nil_append, Nat.reduceAdd, Nat.reduceSub, Nat.zero_add, Option.map_some, Option.map_none, decide_eq_true_eq, Nat.reduceLeDiff, true_and, if_true, Bool.false_eq_true, if_false, eqb_intT, eqb_strT, eqv_int, eqv_str, Bool.not_eq_true', decide_eq_false_iff_not, Bool.not_true, seqD, eqv_nil, eqv_nilT, ne_eq, reduceCtorEq, not_false_eq_true, nDivisor, nFraction, nDistances, nLPot, nLDraw, nLPick, nLCommon, nLFraction, nLLowest, nLShares, nLLook, nLLess, nLGaps, nLAsked, nLaw]
    exact ⟨w, signs, rfl, by omega, by omega, by omega, by omega, fun r hr => hR _ ⟨r, rfl, hr⟩⟩
  · obtain ⟨rows, rfl, hr⟩ := rows_of hp
    rw [rngD_len] at hes
    rw [rowsD_len] at hes
    have fin : ∀ rows : List (List Int), rows.length = states.toNat → (∀ r ∈ rows, IsParts w signs.toNat r) → Q (.d (lookD w rows)) := fun rows h1 h2 => q w rows w1 w6 ⟨h1, h2⟩
    by_cases hs : 1 < states
    · rw [if_pos hs]
      refine ⟨6, rfl, by decide, by decide, fun k k0 k1 => ?_⟩
      simp only [mPut, gIx_0, gIx_1, gIx_2, allD_nil, allD_cons, mgUnl_l, mPar3, mAugI, mAugN, gRepO_l, gCatO_l, onFz_f, mExt, gIsB_b, mNewT, mPutT, mFreezeT, onDic_c, onTk_t, onTd_t, mLc2, gIsN_d, gIn, mAsg, mAndV, mOrV, gCh, Fd.isInt, Fd.isBl, Fd.isTup, Fd.isLst, Fd.isStr, enumD_len, mSeq, mSet, mSetO, mFor, mForD, mRet, mWhile, mPar, mParOE, mParEO, mParOO, mIfS, mDrop, mLc, mCons, mApp, mNext, mFreeze, mOr, mAnd, mIf, mNot, mB, mYes, entry, getV_v, getL_v, getL_o, onSq_l, onSq_t, onSq_s, onI_i, onIB_i, onIB_b, onB_b, onD_d, onOwn_o, onShow_d, onShowX_d, onDs, allD, gI_i, gAdd_i, gAdd_b, gSb_i, gSb_b, gMul_t, gAdd_l, gAdd_t, gAdd_s, gMul_i, gMul_l, gEq_d, gEqL, mgCons_c, mgTup_t, wipeE, List.set_cons_zero, List.set_cons_succ, List.getElem?_cons_zero, List.getElem?_cons_succ, List.map_cons, List.map_nil, List.length_cons, List.length_nil, List.replicate_succ, List.replicate_zero, List.cons_append, List.nil_append, Nat.reduceAdd, Nat.reduceSub, Nat.zero_add, Option.map_some, Option.map_none, decide_eq_true_eq, Nat.reduceLeDiff, true_and, if_true, Bool.false_eq_true, if_false, eqb_intT, eqb_strT, eqv_int, eqv_str, Bool.not_eq_true', decide_eq_false_iff_not, Bool.not_true, seqD, eqv_nil, eqv_nilT, ne_eq, reduceCtorEq, not_false_eq_true, nDivisor, nFraction, nDistances, nLPot, nLDraw, nLPick, nLCommon, nLFraction, nLLowest, nLShares, nLLook, nLLess, nLGaps, nLAsked, nLaw]
      by_cases hk : k = 0
      · rw [if_pos hk]
        obtain ⟨r0, r1, rs, er⟩ : ∃ r0 r1 rs, rows = r0 :: r1 :: rs := by
          rcases rows with _ | ⟨r0, _ | ⟨r1, rs⟩⟩
          · rw [List.length_nil] at hes; omega
          · rw [List.length_cons, List.length_nil] at hes; omega
          · exact ⟨r0, r1, rs, rfl⟩
        subst er
        refine gIx_mk (d := .tuple (r0.map .int)) (atI_nat (n := 0) rfl rfl) ?_
        simp only [mPut, gIx_0, gIx_1, gIx_2, allD_nil, allD_cons, mgUnl_l, mPar3, mAugI, mAugN, gRepO_l, gCatO_l, onFz_f, mExt, gIsB_b, mNewT, mPutT, mFreezeT, onDic_c, onTk_t, onTd_t, mLc2, gIsN_d, gIn, mAsg, mAndV, mOrV, gCh, Fd.isInt, Fd.isBl, Fd.isTup, Fd.isLst, Fd.isStr, enumD_len, mSeq, mSet, mSetO, mFor, mForD, mRet, mWhile, mPar, mParOE, mParEO, mParOO, mIfS, mDrop, mLc, mCons, mApp, mNext, mFreeze, mOr, mAnd, mIf, mNot, mB, mYes, entry, getV_v, getL_v, getL_o, onSq_l, onSq_t, onSq_s, onI_i, onIB_i, onIB_b, onB_b, onD_d, onOwn_o, onShow_d, onShowX_d, onDs, allD, gI_i, gAdd_i, gAdd_b, gSb_i, gSb_b, gMul_t, gAdd_l, gAdd_t, gAdd_s, gMul_i, gMul_l, gEq_d, gEqL, mgCons_c, mgTup_t, wipeE, List.set_cons_zero, List.set_cons_succ, List.getElem?_cons_zero, List.getElem?_cons_succ, List.map_cons, List.map_nil, List.length_cons, List.length_nil, List.replicate_succ, List.replicate_zero, List.cons_append, List.nil_append, Nat.reduceAdd, Nat.reduceSub, Nat.zero_add, Option.map_some, Option.map_none, decide_eq_true_eq, Nat.reduceLeDiff, true_and, if_true, Bool.false_eq_true, if_false, eqb_intT, eqb_strT, eqv_int, eqv_str, Bool.not_eq_true', decide_eq_false_iff_not, Bool.not_true, seqD, eqv_nil, eqv_nilT, ne_eq, reduceCtorEq, not_false_eq_true, nDivisor, nFraction, nDistances, nLPot, nLDraw, nLPick, nLCommon, nLFraction, nLLowest, nLShares, nLLook, nLLess, nLGaps, nLAsked, nLaw]
        refine ⟨1, ix_nat (j := 1) (by rw [rowsD_len, List.length_cons, List.length_cons]; omega), ?_⟩
        have e : (rowsD (r0 :: r1 :: rs)).set 1 (.tuple (r0.map .int)) = rowsD (r0 :: r0 :: rs) := rfl
        rw [e]
        refine fin (r0 :: r0 :: rs) (by rw [List.length_cons, List.length_cons] at hes ⊢; omega) fun r h => ?_
        rcases List.mem_cons.mp h with z | z
        · rw [z]; exact hr r0 List.mem_cons_self
        · rcases List.mem_cons.mp z with z | z
          · rw [z]; exact hr r0 List.mem_cons_self
          · exact hr r (List.mem_cons_of_mem _ (List.mem_cons_of_mem _ z))
      · rw [if_neg hk]
        exact fin rows (by omega) hr
    · rw [if_neg hs]
      simp only [mPut, gIx_0, gIx_1, gIx_2, allD_nil, allD_cons, mgUnl_l, mPar3, mAugI, mAugN, gRepO_l, gCatO_l, onFz_f, mExt, gIsB_b, mNewT, mPutT, mFreezeT, onDic_c, onTk_t, onTd_t, mLc2, gIsN_d, gIn, mAsg, mAndV, mOrV, gCh, Fd.isInt, Fd.isBl, Fd.isTup, Fd.isLst, Fd.isStr, enumD_len, mSeq, mSet, mSetO, mFor, mForD, mRet, mWhile, mPar, mParOE, mParEO, mParOO, mIfS, mDrop, mLc, mCons, mApp, mNext, mFreeze, mOr, mAnd, mIf, mNot, mB, mYes, entry, getV_v, getL_v, getL_o, onSq_l, onSq_t, onSq_s, onI_i, onIB_i, onIB_b, onB_b, onD_d, onOwn_o, onShow_d, onShowX_d, onDs, allD, gI_i, gAdd_i, gAdd_b, gSb_i, gSb_b, gMul_t, gAdd_l, gAdd_t, gAdd_s, gMul_i, gMul_l, gEq_d, gEqL, mgCons_c, mgTup_t, wipeE, List.set_cons_zero, List.set_cons_succ, List.getElem?_cons_zero, List.getElem?_cons_succ, List.map_cons, List.map_nil, List.length_cons, List.length_nil, List.replicate_succ, List.replicate_zero, List.cons_append, List.nil_append, Nat.reduceAdd, Nat.reduceSub, Nat.zero_add, Option.map_some, Option.map_none, decide_eq_true_eq, Nat.reduceLeDiff, true_and, if_true, Bool.false_eq_true, if_false, eqb_intT, eqb_strT, eqv_int, eqv_str, Bool.not_eq_true', decide_eq_false_iff_not, Bool.not_true, seqD, eqv_nil, eqv_nilT, ne_eq, reduceCtorEq, not_false_eq_true, nDivisor, nFraction, nDistances, nLPot, nLDraw, nLPick, nLCommon, nLFraction, nLLowest, nLShares, nLLook, nLLess, nLGaps, nLAsked, nLaw]
      exact fin rows (by omega) hr

theorem cal__law_look {k : Nat} {f : Addr} {fd : FuncData} (F : Fun K "_law_look" "_law_look" sLLook f fd) (g : mg "_law_look" = some (.ref f)) (h : FnG P w K mg base k f fd ["pot", "states", "signs"] (spF K phLLook 2000001000002)) : Cal P w K mg base k "_law_look" sLLook ["pot", "states", "signs"] phLLook 2000001000002 :=
  ⟨phLLook_mono, ⟨_, f, fd, F, g, h⟩, fun _ _ _ _ _ _ _ us hl => match us, hl with | [_, _, _], _ => rfl⟩
end

section
variable {P : Program} {w : World} {K : PySem.W.Frag} {mg : Str → Option Value} {base : Heap}
theorem ok__law_less {f : Addr} {fd : FuncData} (F : Fun K "_law_less" "_law_less" sLLess f fd) (T : Glb mg) : FnG P w K mg base 1 f fd ["one", "other"] (spF K phLLess 0) := by
  have nd := scLLess.nd
  refine okQ F scLLess (fun us Q h => phLLess_len h) (fun cdv A outer s H B hr hgd => ?_)
  have hu := hr.units
  refine ⟨_, _, (xss_one (xs_ret (xe_cmp op_lt ok_cI (xe_op op_ml ok_mul (xe_ix (xl_var 0) xe_int) (xe_ix (xl_var 1) xe_int)) (xe_op op_ml ok_mul (xe_ix (xl_var 1) xe_int) (xe_ix (xl_var 0) xe_int))))), by intro d; dsimp only; omega, fun us Q h => ?_⟩
  obtain ⟨a, b, c, d, rfl, b0, b1, d0, d1, q⟩ := h
  simp only [mPut, gIx_0, gIx_1, gIx_2, allD_nil, allD_cons, mgUnl_l, mPar3, mAugI, mAugN, gRepO_l, gCatO_l, onFz_f, mExt, gIsB_b, mNewT, mPutT, mFreezeT, onDic_c, onTk_t, onTd_t, mLc2, gIsN_d, gIn, mAsg, mAndV, mOrV, gCh, Fd.isInt, Fd.isBl, Fd.isTup, Fd.isLst, Fd.isStr, enumD_len, mSeq, mSet, mSetO, mFor, mForD, mRet, mWhile, mPar, mParOE, mParEO, mParOO, mIfS, mDrop, mLc, mCons, mApp, mNext, mFreeze, mOr, mAnd, mIf, mNot, mB, mYes, entry, getV_v, getL_v, getL_o, onSq_l, onSq_t, onSq_s, onI_i, onIB_i, onIB_b, onB_b, onD_d, onOwn_o, onShow_d, onShowX_d, onDs, allD, gI_i, gAdd_i, gAdd_b, gSb_i, gSb_b, gMul_t, gAdd_l, gAdd_t, gAdd_s, gMul_i, gMul_l, gEq_d, gEqL, mgCons_c, mgTup_t, wipeE, List.set_cons_zero, List.set_cons_succ, List.getElem?_cons_zero, List.getElem?_cons_succ, List.map_cons, List.map_nil, List.length_cons, List.length_nil, List.replicate_succ, List.replicate_zero, List.cons_append, List.nil_append, Nat.reduceAdd, Nat.reduceSub, Nat.zero_add, Option.map_some, Option.map_none, decide_eq_true_eq, Nat.reduceLeDiff, true_and, if_true, Bool.false_eq_true, if_false, eqb_intT, eqb_strT, eqv_int, eqv_str, Bool.not_eq_true', decide_eq_false_iff_not, Bool.not_true, seqD, eqv_nil, eqv_nilT, ne_eq, reduceCtorEq, not_false_eq_true, nDivisor, nFraction, nDistances, nLPot, nLDraw, nLPick, nLCommon, nLFraction, nLLowest, nLShares, nLLook, nLLess, nLGaps, nLAsked, nLaw]
  exact ⟨.inl (.inr ⟨by omega, by omega⟩), .inl (.inr ⟨by omega, by omega⟩), q⟩

theorem cal__law_less {k : Nat} {f : Addr} {fd : FuncData} (F : Fun K "_law_less" "_law_less" sLLess f fd) (g : mg "_law_less" = some (.ref f)) (h : FnG P w K mg base k f fd ["one", "other"] (spF K phLLess 0)) : Cal P w K mg base k "_law_less" sLLess ["one", "other"] phLLess 0 :=
  ⟨phLLess_mono, ⟨_, f, fd, F, g, h⟩, fun _ _ _ _ _ _ _ us hl => match us, hl with | [_, _], _ => rfl⟩
end

section
variable {P : Program} {w : World} {K : PySem.W.Frag} {mg : Str → Option Value} {base : Heap}
theorem ok__law_gaps {f : Addr} {fd : FuncData} (F : Fun K "_law_gaps" "_law_gaps" sLGaps f fd) (T : Glb mg) (c__law_fraction : Cal P w K mg base 2 "_law_fraction" sLFraction ["above", "below"] phLFraction 0) : FnG P w K mg base 3 f fd ["one", "other"] (spF K phLGaps 0) := by
  have nd := scLGaps.nd
  refine okQ F scLGaps (fun us Q h => phLGaps_len h) (fun cdv A outer s H B hr hgd => ?_)
  have hu := hr.units
  refine ⟨_, _, (xss_cons (xs_setO 2 nd (xo_lst xa_nil))
      (xss_cons (xs_for (xf_zip (xq_e (xe_ix (xl_var 0) xe_int)) (xq_e (xe_ix (xl_var 1) xe_int)) T.g_zip) (xg_tup (n := 2) (xgs_cons (xg_name 3 nd) (xgs_cons (xg_name 4 nd) xgs_nil)))
      (xss_cons (xs_set 5 nd (xe_sum (xl_o (xo_lc nd (LcP.mk (own := [("item", 6), ("own", 7)]) (js := ([6] ++ ([7] ++ []))) (xi_zip (xl_var 3) (xl_var 4) T.g_zip) (blkOk_by (by show blkC nLGaps (defScope sLGaps) _ _ = true; decide +kernel)) (fun _ _ _ _ _ => (xg_tup (n := 2) (xgs_cons (xg_name 6 nd) (xgs_cons (xg_name 7 nd) xgs_nil)))) (fun _ _ _ _ _ => xts_nil) (fun _ _ _ _ _ => (xe_abs (xe_op op_sb ok_sb (xe_op op_ml ok_mul (xe_var 6) (xe_ix (xl_var 1) xe_int)) (xe_op op_ml ok_mul (xe_var 7) (xe_ix (xl_var 0) xe_int))) T.g_abs)) (by decide) at_any))) T.g_sum))
      (xss_one (xs_append 2 (xm_e (xe_call (c__law_fraction.up (by decide)) hr hgd (xa_cons (xe_var 5) (xa_cons (xe_op op_ml ok_mul (xe_op op_ml ok_mul xe_int (xe_ix (xl_var 0) xe_int)) (xe_ix (xl_var 1) xe_int)) xa_nil)))) (fun ha hb => pe_bm PySem.F.plainAttrs_list PySem.F.slot_list_append PySem.F.type_list_append mt_append ha (pa_cons hb pa_nil))))))
      (xss_one (xs_ret (xe_tuple (xl_var 2) T.g_tuple))))), by intro d; dsimp only; omega, fun us Q h => ?_⟩
  obtain ⟨st, n, w, R, v, V, rfl, tab, w1, w2, lo, q⟩ := h
  simp only [mPut, gIx_0, gIx_1, gIx_2, allD_nil, allD_cons, mgUnl_l, mPar3, mAugI, mAugN, gRepO_l, gCatO_l, onFz_f, mExt, gIsB_b, mNewT, mPutT, mFreezeT, onDic_c, onTk_t, onTd_t, mLc2, gIsN_d, gIn, mAsg, mAndV, mOrV, gCh, Fd.isInt, Fd.isBl, Fd.isTup, Fd.isLst, Fd.isStr, enumD_len, mSeq, mSet, mSetO, mFor, mForD, mRet, mWhile, mPar, mParOE, mParEO, mParOO, mIfS, mDrop, mLc, mCons, mApp, mNext, mFreeze, mOr, mAnd, mIf, mNot, mB, mYes, entry, getV_v, getL_v, getL_o, onSq_l, onSq_t, onSq_s, onI_i, onIB_i, onIB_b, onB_b, onD_d, onOwn_o, onShow_d, onShowX_d, onDs, allD, gI_i, gAdd_i, gAdd_b, gSb_i, gSb_b, gMul_t, gAdd_l, gAdd_t, gAdd_s, gMul_i, gMul_l, gEq_d, gEqL, mgCons_c, mgTup_t, wipeE, List.set_cons_zero, List.set_cons_succ, List.getElem?_cons_zero, List.getElem?_cons_succ, List.map_cons, List.map_nil, List.length_cons, List.length_nil, List.replicate_succ, List.replicate_zero, List.cons_append, List.nil_append, Nat.reduceAdd, Nat.reduceSub, Nat.zero_add, Option.map_some, Option.map_none, decide_eq_true_eq, Nat.reduceLeDiff, true_and, if_true, Bool.false_eq_true, if_false, eqb_intT, eqb_strT, eqv_int, eqv_str, Bool.not_eq_true', decide_eq_false_iff_not, Bool.not_true, seqD, eqv_nil, eqv_nilT, ne_eq, reduceCtorEq, not_false_eq_true, nDivisor, nFraction, nDistances, nLPot, nLDraw, nLPick, nLCommon, nLFraction, nLLowest, nLShares, nLLook, nLLess, nLGaps, nLAsked, nLaw, lookD]
  have v1 := lo.w1
  have v2 := lo.w2
  have s6 := lo.s6
  have n6 := lo.n6
  have wv : 0 < 2 * w * v := Int.mul_pos (by omega) (by omega)
  have wv2 : 2 * w * v ≤ 10 ^ 300 := by
    have := Int.mul_le_mul (show 2 * w ≤ 2 * 10 ^ 110 by omega) v2 (by omega) (by decide)
    omega
  have ez : zipD (rowsD R) (rowsD V) = (R.zip V).map fun p : List Int × List Int => PyData.tuple [.tuple (p.1.map .int), .tuple (p.2.map .int)] := zipD_map _ _ _ _
  rw [ez]
  refine ⟨rfl, forL_rec (fun ds e => ∃ (dn rs : List (List Int × List Int)) (x3 x4 x5 x6 x7 : Option Sl), ds = rs.map (fun p : List Int × List Int => PyData.tuple [.tuple (p.1.map .int), .tuple (p.2.map .int)]) ∧ dn ++ rs = R.zip V ∧ e = [some (Sl.val (U.d (PyData.tuple [PyData.int w, PyData.tuple (rowsD R)]))), some (Sl.val (U.d (PyData.tuple [PyData.int v, PyData.tuple (rowsD V)]))), some (Sl.own (dn.map fun p => fracW (gapT w v p.1 p.2) (2 * w * v))), x3, x4, x5, x6, x7]) ?_ ?_ _ _ ⟨[], R.zip V, none, none, none, none, none, rfl, rfl, rfl⟩⟩
  · rintro e ⟨dn, rs, x3, x4, x5, x6, x7, hd2, ha, rfl⟩
    cases rs with
    | cons r rs => cases hd2
    | nil =>
      rw [List.append_nil] at ha
      subst ha
      simp only [mPut, gIx_0, gIx_1, gIx_2, allD_nil, allD_cons, mgUnl_l, mPar3, mAugI, mAugN, gRepO_l, gCatO_l, onFz_f, mExt, gIsB_b, mNewT, mPutT, mFreezeT, onDic_c, onTk_t, onTd_t, mLc2, gIsN_d, gIn, mAsg, mAndV, mOrV, gCh, Fd.isInt, Fd.isBl, Fd.isTup, Fd.isLst, Fd.isStr, enumD_len, mSeq, mSet, mSetO, mFor, mForD, mRet, mWhile, mPar, mParOE, mParEO, mParOO, mIfS, mDrop, mLc, mCons, mApp, mNext, mFreeze, mOr, mAnd, mIf, mNot, mB, mYes, entry, getV_v, getL_v, getL_o, onSq_l, onSq_t, onSq_s, onI_i, onIB_i, onIB_b, onB_b, onD_d, onOwn_o, onShow_d, onShowX_d, onDs, allD, gI_i, gAdd_i, gAdd_b, gSb_i, gSb_b, gMul_t, gAdd_l, gAdd_t, gAdd_s, gMul_i, gMul_l, gEq_d, gEqL, mgCons_c, mgTup_t, wipeE, List.set_cons_zero, List.set_cons_succ, List.getElem?_cons_zero, List.getElem?_cons_succ, List.map_cons, List.map_nil, List.length_cons, List.length_nil, List.replicate_succ, List.replicate_zero, List.cons_append, List.nil_append, Nat.reduceAdd, Nat.reduceSub, Nat.zero_add, Option.map_some, Option.map_none, decide_eq_true_eq, Nat.reduceLeDiff, true_and, if_true, Bool.false_eq_true, if_false, eqb_intT, eqb_strT, eqv_int, eqv_str, Bool.not_eq_true', decide_eq_false_iff_not, Bool.not_true, seqD, eqv_nil, eqv_nilT, ne_eq, reduceCtorEq, not_false_eq_true, nDivisor, nFraction, nDistances, nLPot, nLDraw, nLPick, nLCommon, nLFraction, nLLowest, nLShares, nLLook, nLLess, nLGaps, nLAsked, nLaw]
      exact q
  · rintro d ds e R1 ⟨dn, rs, x3, x4, x5, x6, x7, hd2, ha, rfl⟩ hR
    cases rs with
    | nil => cases hd2
    | cons p rs =>
      rw [List.map_cons] at hd2
      injection hd2 with r1 r2
      subst r1 r2
      have pm : p ∈ R.zip V := by rw [← ha]; simp
      have m1 := (List.of_mem_zip pm).1
      have m2 := (List.of_mem_zip pm).2
      have l1 := tab.row p.1 m1
      have e2 := lo.tab.ent p.2 m2
      simp only [mPut, gIx_0, gIx_1, gIx_2, allD_nil, allD_cons, mgUnl_l, mPar3, mAugI, mAugN, gRepO_l, gCatO_l, onFz_f, mExt, gIsB_b, mNewT, mPutT, mFreezeT, onDic_c, onTk_t, onTd_t, mLc2, gIsN_d, gIn, mAsg, mAndV, mOrV, gCh, Fd.isInt, Fd.isBl, Fd.isTup, Fd.isLst, Fd.isStr, enumD_len, mSeq, mSet, mSetO, mFor, mForD, mRet, mWhile, mPar, mParOE, mParEO, mParOO, mIfS, mDrop, mLc, mCons, mApp, mNext, mFreeze, mOr, mAnd, mIf, mNot, mB, mYes, entry, getV_v, getL_v, getL_o, onSq_l, onSq_t, onSq_s, onI_i, onIB_i, onIB_b, onB_b, onD_d, onOwn_o, onShow_d, onShowX_d, onDs, allD, gI_i, gAdd_i, gAdd_b, gSb_i, gSb_b, gMul_t, gAdd_l, gAdd_t, gAdd_s, gMul_i, gMul_l, gEq_d, gEqL, mgCons_c, mgTup_t, wipeE, List.set_cons_zero, List.set_cons_succ, List.getElem?_cons_zero, List.getElem?_cons_succ, List.map_cons, List.map_nil, List.length_cons, List.length_nil, List.replicate_succ, List.replicate_zero, List.cons_append, List.nil_append, Nat.reduceAdd, Nat.reduceSub, Nat.zero_add, Option.map_some, Option.map_none, decide_eq_true_eq, Nat.reduceLeDiff, true_and, if_true, Bool.false_eq_true, if_false, eqb_intT, eqb_strT, eqv_int, eqv_str, Bool.not_eq_true', decide_eq_false_iff_not, Bool.not_true, seqD, eqv_nil, eqv_nilT, ne_eq, reduceCtorEq, not_false_eq_true, nDivisor, nFraction, nDistances, nLPot, nLDraw, nLPick, nLCommon, nLFraction, nLLowest, nLShares, nLLook, nLLess, nLGaps, nLAsked, nLaw]
      rw [zipD_map]
      refine ⟨rfl, by rw [List.length_map, List.length_zip]; omega, lcGo_fun (fun x : Int × Int => PyData.tuple [.int x.1, .int x.2]) (fun x => .int (((x.1 * v - x.2 * w).natAbs : Nat) : Int)) (p.1.zip p.2) [] (fun x hx R2 hR2 => ?_) ?_⟩
      · have := e2 x.2 (List.of_mem_zip hx).2
        simp only [mPut, gIx_0, gIx_1, gIx_2, allD_nil, allD_cons, mgUnl_l, mPar3, mAugI, mAugN, gRepO_l, gCatO_l, onFz_f, mExt, gIsB_b, mNewT, mPutT, mFreezeT, onDic_c, onTk_t, onTd_t, mLc2, gIsN_d, gIn, mAsg, mAndV, mOrV, gCh, Fd.isInt, Fd.isBl, Fd.isTup, Fd.isLst, Fd.isStr, enumD_len, mSeq, mSet, mSetO, mFor, mForD, mRet, mWhile, mPar, mParOE, mParEO, mParOO, mIfS, mDrop, mLc, mCons, mApp, mNext, mFreeze, mOr, mAnd, mIf, mNot, mB, mYes, entry, getV_v, getL_v, getL_o, onSq_l, onSq_t, onSq_s, onI_i, onIB_i, onIB_b, onB_b, onD_d, onOwn_o, onShow_d, onShowX_d, onDs, allD, gI_i, gAdd_i, gAdd_b, gSb_i, gSb_b, gMul_t, gAdd_l, gAdd_t, gAdd_s, gMul_i, gMul_l, gEq_d, gEqL, mgCons_c, mgTup_t, wipeE, List.set_cons_zero, List.set_cons_succ, List.getElem?_cons_zero, List.getElem?_cons_succ, List.map_cons, List.map_nil, List.length_cons, List.length_nil, List.replicate_succ, List.replicate_zero, List.cons_append, List.nil_append, Nat.reduceAdd, Nat.reduceSub, Nat.zero_add, Option.map_some, Option.map_none, decide_eq_true_eq, Nat.reduceLeDiff, true_and, if_true, Bool.false_eq_true, if_false, eqb_intT, eqb_strT, eqv_int, eqv_str, Bool.not_eq_true', decide_eq_false_iff_not, Bool.not_true, seqD, eqv_nil, eqv_nilT, ne_eq, reduceCtorEq, not_false_eq_true, nDivisor, nFraction, nDistances, nLPot, nLDraw, nLPick, nLCommon, nLFraction, nLLowest, nLShares, nLLook, nLLess, nLGaps, nLAsked, nLaw]
        refine ⟨.inl (.inr ⟨by omega, by omega⟩), .inl (.inl ⟨by omega, by omega⟩), ?_⟩
        have ea : (if x.1 * v - x.2 * w < 0 then -(x.1 * v - x.2 * w) else x.1 * v - x.2 * w) = (((x.1 * v - x.2 * w).natAbs : Nat) : Int) := by split <;> omega
        rw [ea]
        exact hR2
      · have e : ((p.1.zip p.2).map fun x : Int × Int => PyData.int (((x.1 * v - x.2 * w).natAbs : Nat) : Int)) = ((p.1.zip p.2).map fun x : Int × Int => (((x.1 * v - x.2 * w).natAbs : Nat) : Int)).map .int := by rw [List.map_map]; rfl
        rw [List.nil_append, e]
        refine onIs_mk ?_
        have hlen := congrArg List.length ha
        rw [List.length_append, List.length_cons, List.length_zip, lo.tab.len] at hlen
        refine ⟨.inl (.inl ⟨by decide, by decide⟩), .inl (.inr ⟨by omega, by omega⟩), _, 2 * w * v, rfl, wv, wv2, ?_⟩
        simp only [mPut, gIx_0, gIx_1, gIx_2, allD_nil, allD_cons, mgUnl_l, mPar3, mAugI, mAugN, gRepO_l, gCatO_l, onFz_f, mExt, gIsB_b, mNewT, mPutT, mFreezeT, onDic_c, onTk_t, onTd_t, mLc2, gIsN_d, gIn, mAsg, mAndV, mOrV, gCh, Fd.isInt, Fd.isBl, Fd.isTup, Fd.isLst, Fd.isStr, enumD_len, mSeq, mSet, mSetO, mFor, mForD, mRet, mWhile, mPar, mParOE, mParEO, mParOO, mIfS, mDrop, mLc, mCons, mApp, mNext, mFreeze, mOr, mAnd, mIf, mNot, mB, mYes, entry, getV_v, getL_v, getL_o, onSq_l, onSq_t, onSq_s, onI_i, onIB_i, onIB_b, onB_b, onD_d, onOwn_o, onShow_d, onShowX_d, onDs, allD, gI_i, gAdd_i, gAdd_b, gSb_i, gSb_b, gMul_t, gAdd_l, gAdd_t, gAdd_s, gMul_i, gMul_l, gEq_d, gEqL, mgCons_c, mgTup_t, wipeE, List.set_cons_zero, List.set_cons_succ, List.getElem?_cons_zero, List.getElem?_cons_succ, List.map_cons, List.map_nil, List.length_cons, List.length_nil, List.replicate_succ, List.replicate_zero, List.cons_append, List.nil_append, Nat.reduceAdd, Nat.reduceSub, Nat.zero_add, Option.map_some, Option.map_none, decide_eq_true_eq, Nat.reduceLeDiff, true_and, if_true, Bool.false_eq_true, if_false, eqb_intT, eqb_strT, eqv_int, eqv_str, Bool.not_eq_true', decide_eq_false_iff_not, Bool.not_true, seqD, eqv_nil, eqv_nilT, ne_eq, reduceCtorEq, not_false_eq_true, nDivisor, nFraction, nDistances, nLPot, nLDraw, nLPick, nLCommon, nLFraction, nLLowest, nLShares, nLLook, nLLess, nLGaps, nLAsked, nLaw]
        refine ⟨⟨by rw [List.length_map]; omega⟩, ?_⟩
        have e3 : (dn.map fun p => fracW (gapT w v p.1 p.2) (2 * w * v)) ++ [fracW (gapT w v p.1 p.2) (2 * w * v)] = (dn ++ [p]).map fun p => fracW (gapT w v p.1 p.2) (2 * w * v) := by
          rw [List.map_append]
          rfl
        have e4 : fracW ((p.1.zip p.2).map fun x : Int × Int => (((x.1 * v - x.2 * w).natAbs : Nat) : Int)).sum (2 * w * v) = fracW (gapT w v p.1 p.2) (2 * w * v) := rfl
        rw [e4, e3]
        exact hR _ ⟨dn ++ [p], rs, _, _, _, _, _, rfl, by rw [List.append_assoc]; exact ha, rfl⟩

theorem cal__law_gaps {k : Nat} {f : Addr} {fd : FuncData} (F : Fun K "_law_gaps" "_law_gaps" sLGaps f fd) (g : mg "_law_gaps" = some (.ref f)) (h : FnG P w K mg base k f fd ["one", "other"] (spF K phLGaps 0)) : Cal P w K mg base k "_law_gaps" sLGaps ["one", "other"] phLGaps 0 :=
  ⟨phLGaps_mono, ⟨_, f, fd, F, g, h⟩, fun _ _ _ _ _ _ _ us hl => match us, hl with | [_, _], _ => rfl⟩
end

section
variable {P : Program} {w : World} {K : PySem.W.Frag} {mg : Str → Option Value} {base : Heap}
theorem ok__law_asked {f : Addr} {fd : FuncData} (F : Fun K "_law_asked" "_law_asked" sLAsked f fd) (T : Glb mg) {xUnfit yUnfit wUnfit : Addr} (e_Unfit : ExT P K mg "Unfit" "LookError" "nothing" aUnfit bUnfit zUnfit xUnfit yUnfit wUnfit) (c_distances : CalX P w K mg base 3 "distances" sDistances ["one", "other"] phDistances) : FnG P w K mg base 4 f fd ["one", "other", "is_named"] (spF K phLAsked 0) := by
  have nd := scLAsked.nd
  refine okQ F scLAsked (fun us Q h => phLAsked_len h) (fun cdv A outer s H B hr hgd => ?_)
  have hu := hr.units
  refine ⟨_, _, (xss_one (xs_tryL (i := 3) rfl rfl nd rfl rfl ⟨rfl, by decide, .inl e_Unfit.g⟩ e_Unfit.g e_Unfit.ex (fun pn xe B R L =>
      (xss_one (xs_ret (xe_o (xo_lst (xa_cons xe_str (xa_cons (xe_if (xt_val (xe_var 2)) (xe_callXK [1, 0] (ks := ["other", "one"]) (c_distances.up (by decide)) L hr hgd (xk_cons (xe_var 1) (xk_cons (xe_var 0) xk_nil)) (fun _ _ _ _ _ _ _ us _ hl => match us, hl with | [_, _], _ => rfl)) (xe_callX (c_distances.up (by decide)) L hr hgd (xa_cons (xe_var 0) (xa_cons (xe_var 1) xa_nil)))) xa_nil))))))) (sua_str (sua_isi sua_nil e_Unfit.c e_Unfit.kit e_Unfit.g e_Unfit.gb rfl (by decide) T.g_isinstance rfl rfl (by first | exact Or.inl rfl | exact Or.inr (Or.inl rfl) | exact Or.inr (Or.inr rfl)) (by decide) (by decide))))), by intro d; dsimp only; omega, fun us Q h => ?_⟩
  obtain ⟨st, n, m, w, A, v, B, nb, rfl, dl, dl2, h1, h2⟩ := h
  refine mTryX_mk rfl ?_
  simp only [mPut, gIx_0, gIx_1, gIx_2, allD_nil, allD_cons, mgUnl_l, mPar3, mAugI, mAugN, gRepO_l, gCatO_l, onFz_f, mExt, gIsB_b, mNewT, mPutT, mFreezeT, onDic_c, onTk_t, onTd_t, mLc2, gIsN_d, gIn, mAsg, mAndV, mOrV, gCh, Fd.isInt, Fd.isBl, Fd.isTup, Fd.isLst, Fd.isStr, enumD_len, mSeq, mSet, mSetO, mFor, mForD, mRet, mWhile, mPar, mParOE, mParEO, mParOO, mIfS, mDrop, mLc, mCons, mApp, mNext, mFreeze, mOr, mAnd, mIf, mNot, mB, mYes, entry, getV_v, getL_v, getL_o, onSq_l, onSq_t, onSq_s, onI_i, onIB_i, onIB_b, onB_b, onD_d, onOwn_o, onShow_d, onShowX_d, onDs, allD, gI_i, gAdd_i, gAdd_b, gSb_i, gSb_b, gMul_t, gAdd_l, gAdd_t, gAdd_s, gMul_i, gMul_l, gEq_d, gEqL, mgCons_c, mgTup_t, wipeE, List.set_cons_zero, List.set_cons_succ, List.getElem?_cons_zero, List.getElem?_cons_succ, List.map_cons, List.map_nil, List.length_cons, List.length_nil, List.replicate_succ, List.replicate_zero, List.cons_append, List.nil_append, Nat.reduceAdd, Nat.reduceSub, Nat.zero_add, Option.map_some, Option.map_none, decide_eq_true_eq, Nat.reduceLeDiff, true_and, if_true, Bool.false_eq_true, if_false, eqb_intT, eqb_strT, eqv_int, eqv_str, Bool.not_eq_true', decide_eq_false_iff_not, Bool.not_true, seqD, eqv_nil, eqv_nilT, ne_eq, reduceCtorEq, not_false_eq_true, nDivisor, nFraction, nDistances, nLPot, nLDraw, nLPick, nLCommon, nLFraction, nLLowest, nLShares, nLLook, nLLess, nLGaps, nLAsked, nLaw]
  cases nb with
  | true =>
    rw [if_pos rfl]
    exact ⟨st, n, m, w, A, v, B, rfl, dl, dl2, fun hf => ⟨by simp, h1 hf⟩, fun hf => ⟨rfl, _, ⟨_, rfl, _, rfl, rfl, rfl, rfl⟩, by decide, h2 hf⟩⟩
  | false =>
    rw [if_neg (by decide)]
    exact ⟨st, n, m, w, A, v, B, rfl, dl, dl2, fun hf => ⟨by simp, h1 hf⟩, fun hf => ⟨rfl, _, ⟨_, rfl, _, rfl, rfl, rfl, rfl⟩, by decide, h2 hf⟩⟩

theorem cal__law_asked {k : Nat} {f : Addr} {fd : FuncData} (F : Fun K "_law_asked" "_law_asked" sLAsked f fd) (g : mg "_law_asked" = some (.ref f)) (h : FnG P w K mg base k f fd ["one", "other", "is_named"] (spF K phLAsked 0)) : Cal P w K mg base k "_law_asked" sLAsked ["one", "other", "is_named"] phLAsked 0 :=
  ⟨phLAsked_mono, ⟨_, f, fd, F, g, h⟩, fun _ _ _ _ _ _ _ us hl => match us, hl with | [_, _, _], _ => rfl⟩
end

section
variable {P : Program} {w : World} {K : PySem.W.Frag} {mg : Str → Option Value} {base : Heap}
theorem ok_law {f : Addr} {fd : FuncData} (F : Fun K "law" "law" sLaw f fd) (T : Glb mg) (SM : ∃ o, base.get? sysModules = some o) (c_distances : CalX P w K mg base 3 "distances" sDistances ["one", "other"] phDistances) (c__law_asked : Cal P w K mg base 4 "_law_asked" sLAsked ["one", "other", "is_named"] phLAsked 0) (c__law_draw : Cal P w K mg base 1 "_law_draw" sLDraw ["pot", "many"] phLDraw 1) (c__law_fraction : Cal P w K mg base 2 "_law_fraction" sLFraction ["above", "below"] phLFraction 0) (c__law_gaps : Cal P w K mg base 3 "_law_gaps" sLGaps ["one", "other"] phLGaps 0) (c__law_less : Cal P w K mg base 1 "_law_less" sLLess ["one", "other"] phLLess 0) (c__law_look : Cal P w K mg base 4 "_law_look" sLLook ["pot", "states", "signs"] phLLook 2000001000002) (c__law_lowest : Cal P w K mg base 2 "_law_lowest" sLLowest ["whole", "rows"] phLLowest 0) (c__law_pot : Cal P w K mg base 1 "_law_pot" sLPot ["script"] phLPot 0) : FnG P w K mg base 5 f fd ["script"] (spLaw K) := by
  have nd := scLaw.nd
  refine okLaw F scLaw (s1 := (defBody sLaw).headD (.Pass ⟨0, 0, 0, 0⟩)) (e1 := asgV ((defBody sLaw).headD (.Pass ⟨0, 0, 0, 0⟩))) (rest := (defBody sLaw).tail) (by rfl) (by decide) MkPot is_pot fun cdv A outer s H hr hgd => ?_
  have hu := hr.units
  refine ⟨_, _, _, _, fun he => ps_set nd rfl (by first | exact .inl rfl | exact .inr rfl) he, fun B => (xe_call (c__law_pot.up (by decide)) hr hgd (xa_cons (xe_var 0) xa_nil)), fun B =>
    (xss_cons (xs_forD (xf_range1 xe_int T.g_range) (xg_name 2 nd)
      (xss_cons (xs_asg (xe_tup (xa_cons (xe_op op_ad ok_add xe_int (xe_call (c__law_draw.up (by decide)) hr hgd (xa_cons (xe_var 1) (xa_cons xe_int xa_nil)))) (xa_cons (xe_op op_ad ok_add xe_int (xe_call (c__law_draw.up (by decide)) hr hgd (xa_cons (xe_var 1) (xa_cons xe_int xa_nil)))) xa_nil))) (xg_tup (n := 2) (xgs_cons (xg_name 3 nd) (xgs_cons (xg_name 4 nd) xgs_nil))))
      (xss_cons (xs_asg (xe_o (xo_lc nd (LcP.mk (own := [("k", 20)]) (js := [20]) (XF.xi (xf_range1 xe_int T.g_range)) (blkOk_by (by show blkC nLaw (defScope sLaw) _ _ = true; decide +kernel)) (fun _ _ _ _ _ => (xg_name 20 nd)) (fun _ _ _ _ _ => xts_nil) (fun _ _ _ _ _ => (xe_call (c__law_look.up (by decide)) hr hgd (xa_cons (xe_var 1) (xa_cons (xe_var 3) (xa_cons (xe_var 4) xa_nil))))) (by decide) at_any))) (xg_unl (n := 3) (xgs_cons (xg_name 5 nd) (xgs_cons (xg_name 6 nd) (xgs_cons (xg_name 7 nd) xgs_nil)))))
      (xss_cons (xs_if (xt_cmp (op_eqP hu) ok_eq (xe_call (c__law_draw.up (by decide)) hr hgd (xa_cons (xe_var 1) (xa_cons xe_int xa_nil))) xe_int) (xss_cons (xs_asg (xe_call (c__law_lowest.up (by decide)) hr hgd (xa_cons (xe_ix (xl_var 5) xe_int) (xa_cons (xe_ix (xl_var 5) xe_int) xa_nil))) (xg_tup (n := 2) (xgs_cons (xg_name 8 nd) (xgs_cons (xg_name 9 nd) xgs_nil))))
      (xss_cons (xs_set 10 nd (xe_op op_ad ok_add xe_int (xe_call (c__law_draw.up (by decide)) hr hgd (xa_cons (xe_var 1) (xa_cons (xe_op op_fdivW ok_div xe_int (xe_var 8)) xa_nil)))))
      (xss_one (xs_set 6 nd (xe_tup (xa_cons (xe_op op_ml ok_mul (xe_var 8) (xe_var 10)) (xa_cons (xe_tuple (xl_o (xo_lc nd (LcP.mk (own := [("row", 21)]) (js := [21]) (xi_seq (xl_var 9)) (blkOk_by (by show blkC nLaw (defScope sLaw) _ _ = true; decide +kernel)) (fun _ _ _ _ _ => (xg_name 21 nd)) (fun _ _ _ _ _ => xts_nil) (fun _ _ _ _ _ => (xe_tuple (xl_o (xo_lc nd (LcP.mk (own := [("item", 22)]) (js := [22]) (xi_seq (xl_var 21)) (blkOk_by (by show blkC nLaw ((relS _ (defScope sLaw))) _ _ = true; decide +kernel)) (fun _ _ _ _ _ => (xg_name 22 nd)) (fun _ _ _ _ _ => xts_nil) (fun _ _ _ _ _ => (xe_op op_ml ok_mul (xe_var 22) (xe_var 10))) (by decide) at_any))) T.g_tuple)) (by decide) at_any))) T.g_tuple) xa_nil)))))))
      xss_nil)
      (xss_cons (xs_par 11 12 nd (xe_reprX SM hu hgd (xe_o (xo_lst (xa_cons (xe_var 5) (xa_cons (xe_var 6) (xa_cons (xe_var 7) xa_nil))))) T.g_repr) (xe_call (c__law_gaps.up (by decide)) hr hgd (xa_cons (xe_var 5) (xa_cons (xe_var 6) xa_nil))) (fun ha hb => ps_par rfl nd rfl rfl (by decide) rfl rfl (pa_cons ha (pa_cons hb pa_nil)) (by rfl)))
      (xss_cons (xs_set 13 nd (xe_o (xo_lst (xa_cons (xe_call (c__law_asked.up (by decide)) hr hgd (xa_cons (xe_var 5) (xa_cons (xe_var 6) (xa_cons xe_bl xa_nil)))) (xa_cons (xe_call (c__law_asked.up (by decide)) hr hgd (xa_cons (xe_var 6) (xa_cons (xe_var 5) (xa_cons xe_bl xa_nil)))) (xa_cons (xe_call (c__law_asked.up (by decide)) hr hgd (xa_cons (xe_var 5) (xa_cons (xe_var 6) (xa_cons xe_bl xa_nil)))) xa_nil))))))
      (xss_cons (xs_if (xt_cmp (op_neP hu) ok_eq (xe_reprX SM hu hgd (xe_var 13) T.g_repr) (xe_reprX SM hu hgd (xe_op op_ml ok_mul (xe_o (xo_lst (xa_cons (xe_o (xo_lst (xa_cons xe_str (xa_cons (xe_var 12) xa_nil)))) xa_nil))) xe_int) T.g_repr)) (xss_one (xs_ret xe_bl))
      xss_nil)
      (xss_cons (xs_set 14 nd (xe_cmp (op_eqP hu) ok_eq (xe_call (c__law_lowest.up (by decide)) hr hgd (xa_cons (xe_ix (xl_var 5) xe_int) (xa_cons (xe_ix (xl_var 5) xe_int) xa_nil))) (xe_call (c__law_lowest.up (by decide)) hr hgd (xa_cons (xe_ix (xl_var 6) xe_int) (xa_cons (xe_ix (xl_var 6) xe_int) xa_nil)))))
      (xss_cons (xs_if (xt_cmp (op_neP hu) ok_eq (xe_cmp (op_eqP hu) ok_eq (xe_var 12) (xe_op op_ml ok_mul (xe_tup (xa_cons (xe_tup (xa_cons xe_int (xa_cons xe_int xa_nil))) xa_nil)) (xe_var 3))) (xe_var 14)) (xss_one (xs_ret xe_bl))
      xss_nil)
      (xss_cons (xs_for (xf_zt (xa_cons (xe_callX (c_distances.up (by decide)) link_none hr hgd (xa_cons (xe_var 5) (xa_cons (xe_var 7) xa_nil))) (xa_cons (xe_callX (c_distances.up (by decide)) link_none hr hgd (xa_cons (xe_var 5) (xa_cons (xe_var 6) xa_nil))) (xa_cons (xe_callX (c_distances.up (by decide)) link_none hr hgd (xa_cons (xe_var 6) (xa_cons (xe_var 7) xa_nil))) xa_nil))) T.g_zip) (xg_tup (n := 3) (xgs_cons (xg_name 15 nd) (xgs_cons (xg_name 16 nd) (xgs_cons (xg_name 17 nd) xgs_nil))))
      (xss_one (xs_if (xt_val (xe_call (c__law_less.up (by decide)) hr hgd (xa_cons (xe_call (c__law_fraction.up (by decide)) hr hgd (xa_cons (xe_op op_ad ok_add (xe_op op_ml ok_mul (xe_ix (xl_var 16) xe_int) (xe_ix (xl_var 17) xe_int)) (xe_op op_ml ok_mul (xe_ix (xl_var 17) xe_int) (xe_ix (xl_var 16) xe_int))) (xa_cons (xe_op op_ml ok_mul (xe_ix (xl_var 16) xe_int) (xe_ix (xl_var 17) xe_int)) xa_nil))) (xa_cons (xe_var 15) xa_nil)))) (xss_one (xs_ret xe_bl))
      xss_nil)))
      (xss_cons (xs_set 18 nd (xe_call (c__law_look.up (by decide)) hr hgd (xa_cons (xe_var 1) (xa_cons (xe_var 3) (xa_cons (xe_op op_ad ok_add xe_int (xe_op op_mod ok_mod (xe_var 4) xe_int)) xa_nil)))))
      (xss_cons (xs_for (xf_seq (xq_e (xe_tup (xa_cons xe_bl (xa_cons xe_bl xa_nil))))) (xg_name 19 nd)
      (xss_one (xs_if (XW.xt (xw_and (xt_cmp (op_neP hu) ok_eq (xe_var 4) (xe_len (xl_e (xe_ix (xl_e (xe_ix (xl_var 18) xe_int)) xe_int)) T.g_len)) (xw_and1 (xt_cmp (op_neP hu) ok_eq (xe_call (c__law_asked.up (by decide)) hr hgd (xa_cons (xe_var 5) (xa_cons (xe_var 18) (xa_cons (xe_var 19) xa_nil)))) (xe_o (xo_lst (xa_cons xe_str (xa_cons xe_bl xa_nil)))))))) (xss_one (xs_ret xe_bl))
      xss_nil)))
      (xss_one (xs_if (xt_cmp (op_neP hu) ok_eq (xe_reprX SM hu hgd (xe_o (xo_lst (xa_cons (xe_var 5) (xa_cons (xe_var 6) (xa_cons (xe_var 7) xa_nil))))) T.g_repr) (xe_var 11)) (xss_one (xs_ret xe_bl))
      xss_nil))))))))))))))
      (xss_one (xs_ret xe_bl))), by dsimp only; omega, fun ns hl => ?_, fun ns hl => ?_⟩
  · simp only [mPut, gIx_0, gIx_1, gIx_2, allD_nil, allD_cons, mgUnl_l, mPar3, mAugI, mAugN, gRepO_l, gCatO_l, onFz_f, mExt, gIsB_b, mNewT, mPutT, mFreezeT, onDic_c, onTk_t, onTd_t, mLc2, gIsN_d, gIn, mAsg, mAndV, mOrV, gCh, Fd.isInt, Fd.isBl, Fd.isTup, Fd.isLst, Fd.isStr, enumD_len, mSeq, mSet, mSetO, mFor, mForD, mRet, mWhile, mPar, mParOE, mParEO, mParOO, mIfS, mDrop, mLc, mCons, mApp, mNext, mFreeze, mOr, mAnd, mIf, mNot, mB, mYes, entry, getV_v, getL_v, getL_o, onSq_l, onSq_t, onSq_s, onI_i, onIB_i, onIB_b, onB_b, onD_d, onOwn_o, onShow_d, onShowX_d, onDs, allD, gI_i, gAdd_i, gAdd_b, gSb_i, gSb_b, gMul_t, gAdd_l, gAdd_t, gAdd_s, gMul_i, gMul_l, gEq_d, gEqL, mgCons_c, mgTup_t, wipeE, List.set_cons_zero, List.set_cons_succ, List.getElem?_cons_zero, List.getElem?_cons_succ, List.map_cons, List.map_nil, List.length_cons, List.length_nil, List.replicate_succ, List.replicate_zero, List.cons_append, List.nil_append, Nat.reduceAdd, Nat.reduceSub, Nat.zero_add, Option.map_some, Option.map_none, decide_eq_true_eq, Nat.reduceLeDiff, true_and, if_true, Bool.false_eq_true, if_false, eqb_intT, eqb_strT, eqv_int, eqv_str, Bool.not_eq_true', decide_eq_false_iff_not, Bool.not_true, seqD, eqv_nil, eqv_nilT, ne_eq, reduceCtorEq, not_false_eq_true, nDivisor, nFraction, nDistances, nLPot, nLDraw, nLPick, nLCommon, nLFraction, nLLowest, nLShares, nLLook, nLLess, nLGaps, nLAsked, nLaw]
    exact ⟨ns, rfl, hl, fun d hd => hd⟩

  simp only [mPut, gIx_0, gIx_1, gIx_2, allD_nil, allD_cons, mgUnl_l, mPar3, mAugI, mAugN, gRepO_l, gCatO_l, onFz_f, mExt, gIsB_b, mNewT, mPutT, mFreezeT, onDic_c, onTk_t, onTd_t, mLc2, gIsN_d, gIn, mAsg, mAndV, mOrV, gCh, Fd.isInt, Fd.isBl, Fd.isTup, Fd.isLst, Fd.isStr, enumD_len, mSeq, mSet, mSetO, mFor, mForD, mRet, mWhile, mPar, mParOE, mParEO, mParOO, mIfS, mDrop, mLc, mCons, mApp, mNext, mFreeze, mOr, mAnd, mIf, mNot, mB, mYes, entry, getV_v, getL_v, getL_o, onSq_l, onSq_t, onSq_s, onI_i, onIB_i, onIB_b, onB_b, onD_d, onOwn_o, onShow_d, onShowX_d, onDs, allD, gI_i, gAdd_i, gAdd_b, gSb_i, gSb_b, gMul_t, gAdd_l, gAdd_t, gAdd_s, gMul_i, gMul_l, gEq_d, gEqL, mgCons_c, mgTup_t, wipeE, List.set_cons_zero, List.set_cons_succ, List.getElem?_cons_zero, List.getElem?_cons_succ, List.map_cons, List.map_nil, List.length_cons, List.length_nil, List.replicate_succ, List.replicate_zero, List.cons_append, List.nil_append, Nat.reduceAdd, Nat.reduceSub, Nat.zero_add, Option.map_some, Option.map_none, decide_eq_true_eq, Nat.reduceLeDiff, true_and, if_true, Bool.false_eq_true, if_false, eqb_intT, eqb_strT, eqv_int, eqv_str, Bool.not_eq_true', decide_eq_false_iff_not, Bool.not_true, seqD, eqv_nil, eqv_nilT, ne_eq, reduceCtorEq, not_false_eq_true, nDivisor, nFraction, nDistances, nLPot, nLDraw, nLPick, nLCommon, nLFraction, nLLowest, nLShares, nLLook, nLLess, nLGaps, nLAsked, nLaw]
  rw [show rngD 0 5 = rngD 0 ((5 : Nat) : Int) from rfl]
  refine ⟨⟨by decide, by decide⟩, by decide, forL_nat 5 (fun j e' => ∃ z2 z3 z4 z5 z6 z7 z8 z9 z10 z11 z12 z13 z14 z15 z16 z17 z18 z19 z20 z21 z22 : Option Sl, e' = [some (Sl.val (U.scr (List.map PyData.int ns))), some (Sl.val U.pot), z2, z3, z4, z5, z6, z7, z8, z9, z10, z11, z12, z13, z14, z15, z16, z17, z18, z19, z20, z21, z22]) ?_ ?_ _ ⟨_, _, _, _, _, _, _, _, _, _, _, _, _, _, _, _, _, _, _, _, _, rfl⟩⟩
  · rintro e ⟨z2, z3, z4, z5, z6, z7, z8, z9, z10, z11, z12, z13, z14, z15, z16, z17, z18, z19, z20, z21, z22, rfl⟩
    trivial
  · rintro j e S hj ⟨z2, z3, z4, z5, z6, z7, z8, z9, z10, z11, z12, z13, z14, z15, z16, z17, z18, z19, z20, z21, z22, rfl⟩ hS
    refine seq3 (fun e' => ∃ (st n : Nat) (w : Int) (A : List (List Int)) (v : Int) (B : List (List Int)) (u : Int) (C : List (List Int)), Dl st n w A ∧ Dl st n v B ∧ Dl st n u C ∧ ∃ z2 z8 z9 z10 z11 z12 z13 z14 z15 z16 z17 z18 z19 z20 z21 z22 : Option Sl, e' = [some (Sl.val (U.scr (List.map PyData.int ns))), some (Sl.val U.pot), z2, some (Sl.val (U.d (PyData.int (st : Int)))), some (Sl.val (U.d (PyData.int (n : Int)))), some (Sl.val (U.d (lookD w A))), some (Sl.val (U.d (lookD v B))), some (Sl.val (U.d (lookD u C))), z8, z9, z10, z11, z12, z13, z14, z15, z16, z17, z18, z19, z20, z21, z22]) ?_ ?_
    · rintro e ⟨st, n, w, A, v, B, u, C, dA, dB, dC, z2, z8, z9, z10, z11, z12, z13, z14, z15, z16, z17, z18, z19, z20, z21, z22, rfl⟩
      refine seq3 (fun e' => ∃ z2 z8 z9 z10 z13 z14 z15 z16 z17 z18 z19 z20 z21 z22 : Option Sl, e' = [some (Sl.val (U.scr (List.map PyData.int ns))), some (Sl.val U.pot), z2, some (Sl.val (U.d (PyData.int (st : Int)))), some (Sl.val (U.d (PyData.int (n : Int)))), some (Sl.val (U.d (lookD w A))), some (Sl.val (U.d (lookD v B))), some (Sl.val (U.d (lookD u C))), z8, z9, z10, some (Sl.val (U.d (PyData.str (PyData.list [lookD w A, lookD v B, lookD u C]).shown))), some (Sl.val (U.d (distD w A v B))), z13, z14, z15, z16, z17, z18, z19, z20, z21, z22]) ?_ ?_
      · rintro e ⟨z2, z8, z9, z10, z13, z14, z15, z16, z17, z18, z19, z20, z21, z22, rfl⟩
        refine seq2 (fun e' => ∃ z2 z8 z9 z10 z13 z14 z15 z16 z17 z18 z19 z20 z21 z22 : Option Sl, e' = [some (Sl.val (U.scr (List.map PyData.int ns))), some (Sl.val U.pot), z2, some (Sl.val (U.d (PyData.int (st : Int)))), some (Sl.val (U.d (PyData.int (n : Int)))), some (Sl.val (U.d (lookD w A))), some (Sl.val (U.d (lookD v B))), some (Sl.val (U.d (lookD u C))), z8, z9, z10, some (Sl.val (U.d (PyData.str (PyData.list [lookD w A, lookD v B, lookD u C]).shown))), some (Sl.val (U.d (distD w A v B))), z13, z14, z15, z16, z17, z18, z19, z20, z21, z22]) ?_ ?_
        · rintro e ⟨z2, z8, z9, z10, z13, z14, z15, z16, z17, z18, z19, z20, z21, z22, rfl⟩
          refine seq1 (fun e' => ∃ z2 z8 z9 z10 z13 z14 z15 z16 z17 z18 z19 z20 z21 z22 : Option Sl, e' = [some (Sl.val (U.scr (List.map PyData.int ns))), some (Sl.val U.pot), z2, some (Sl.val (U.d (PyData.int (st : Int)))), some (Sl.val (U.d (PyData.int (n : Int)))), some (Sl.val (U.d (lookD w A))), some (Sl.val (U.d (lookD v B))), some (Sl.val (U.d (lookD u C))), z8, z9, z10, some (Sl.val (U.d (PyData.str (PyData.list [lookD w A, lookD v B, lookD u C]).shown))), some (Sl.val (U.d (distD w A v B))), z13, z14, z15, z16, z17, z18, z19, z20, z21, z22]) ?_ ?_
          · rintro e ⟨z2, z8, z9, z10, z13, z14, z15, z16, z17, z18, z19, z20, z21, z22, rfl⟩
            refine seq2 (fun e' => ∃ z2 z8 z9 z10 z13 z14 z15 z16 z17 z18 z19 z20 z21 z22 : Option Sl, e' = [some (Sl.val (U.scr (List.map PyData.int ns))), some (Sl.val U.pot), z2, some (Sl.val (U.d (PyData.int (st : Int)))), some (Sl.val (U.d (PyData.int (n : Int)))), some (Sl.val (U.d (lookD w A))), some (Sl.val (U.d (lookD v B))), some (Sl.val (U.d (lookD u C))), z8, z9, z10, some (Sl.val (U.d (PyData.str (PyData.list [lookD w A, lookD v B, lookD u C]).shown))), some (Sl.val (U.d (distD w A v B))), z13, z14, z15, z16, z17, z18, z19, z20, z21, z22]) ?_ ?_
            · rintro e ⟨z2, z8, z9, z10, z13, z14, z15, z16, z17, z18, z19, z20, z21, z22, rfl⟩
              simp only [mPut, gIx_0, gIx_1, gIx_2, allD_nil, allD_cons, mgUnl_l, mPar3, mAugI, mAugN, gRepO_l, gCatO_l, onFz_f, mExt, gIsB_b, mNewT, mPutT, mFreezeT, onDic_c, onTk_t, onTd_t, mLc2, gIsN_d, gIn, mAsg, mAndV, mOrV, gCh, Fd.isInt, Fd.isBl, Fd.isTup, Fd.isLst, Fd.isStr, enumD_len, mSeq, mSet, mSetO, mFor, mForD, mRet, mWhile, mPar, mParOE, mParEO, mParOO, mIfS, mDrop, mLc, mCons, mApp, mNext, mFreeze, mOr, mAnd, mIf, mNot, mB, mYes, entry, getV_v, getL_v, getL_o, onSq_l, onSq_t, onSq_s, onI_i, onIB_i, onIB_b, onB_b, onD_d, onOwn_o, onShow_d, onShowX_d, onDs, allD, gI_i, gAdd_i, gAdd_b, gSb_i, gSb_b, gMul_t, gAdd_l, gAdd_t, gAdd_s, gMul_i, gMul_l, gEq_d, gEqL, mgCons_c, mgTup_t, wipeE, List.set_cons_zero, List.set_cons_succ, List.getElem?_cons_zero, List.getElem?_cons_succ, List.map_cons, List.map_nil, List.length_cons, List.length_nil, List.replicate_succ, List.replicate_zero, List.cons_append, List.nil_append, Nat.reduceAdd, Nat.reduceSub, Nat.zero_add, Option.map_some, Option.map_none, decide_eq_true_eq, Nat.reduceLeDiff, true_and, if_true, Bool.false_eq_true, if_false, eqb_intT, eqb_strT, eqv_int, eqv_str, Bool.not_eq_true', decide_eq_false_iff_not, Bool.not_true, seqD, eqv_nil, eqv_nilT, ne_eq, reduceCtorEq, not_false_eq_true, nDivisor, nFraction, nDistances, nLPot, nLDraw, nLPick, nLCommon, nLFraction, nLLowest, nLShares, nLLook, nLLess, nLGaps, nLAsked, nLaw]
              exact ⟨(sh_three dA.sh dB.sh dC.sh).showsX (by decide) (by decide), hS _ ⟨_, _, _, _, _, _, _, _, _, _, _, _, _, _, _, _, _, _, _, _, _, rfl⟩⟩
            · intro T hT
              simp only [mPut, gIx_0, gIx_1, gIx_2, allD_nil, allD_cons, mgUnl_l, mPar3, mAugI, mAugN, gRepO_l, gCatO_l, onFz_f, mExt, gIsB_b, mNewT, mPutT, mFreezeT, onDic_c, onTk_t, onTd_t, mLc2, gIsN_d, gIn, mAsg, mAndV, mOrV, gCh, Fd.isInt, Fd.isBl, Fd.isTup, Fd.isLst, Fd.isStr, enumD_len, mSeq, mSet, mSetO, mFor, mForD, mRet, mWhile, mPar, mParOE, mParEO, mParOO, mIfS, mDrop, mLc, mCons, mApp, mNext, mFreeze, mOr, mAnd, mIf, mNot, mB, mYes, entry, getV_v, getL_v, getL_o, onSq_l, onSq_t, onSq_s, onI_i, onIB_i, onIB_b, onB_b, onD_d, onOwn_o, onShow_d, onShowX_d, onDs, allD, gI_i, gAdd_i, gAdd_b, gSb_i, gSb_b, gMul_t, gAdd_l, gAdd_t, gAdd_s, gMul_i, gMul_l, gEq_d, gEqL, mgCons_c, mgTup_t, wipeE, List.set_cons_zero, List.set_cons_succ, List.getElem?_cons_zero, List.getElem?_cons_succ, List.map_cons, List.map_nil, List.length_cons, List.length_nil, List.replicate_succ, List.replicate_zero, List.cons_append, List.nil_append, Nat.reduceAdd, Nat.reduceSub, Nat.zero_add, Option.map_some, Option.map_none, decide_eq_true_eq, Nat.reduceLeDiff, true_and, if_true, Bool.false_eq_true, if_false, eqb_intT, eqb_strT, eqv_int, eqv_str, Bool.not_eq_true', decide_eq_false_iff_not, Bool.not_true, seqD, eqv_nil, eqv_nilT, ne_eq, reduceCtorEq, not_false_eq_true, nDivisor, nFraction, nDistances, nLPot, nLDraw, nLPick, nLCommon, nLFraction, nLLowest, nLShares, nLLook, nLLess, nLGaps, nLAsked, nLaw]
              refine ⟨by decide, st, 1 + n % 6, rfl, by omega, by have := dA.s4; omega, by omega, by omega, fun x D x1 x6 lk => ?_⟩
              have dD : Dl st (1 + (n : Int) % 6).toNat x D := ⟨lk, x1, x6, dA.s1, dA.s4, by omega, by omega⟩
              dsimp only
              refine forL_rec (fun ds e' => (∀ d ∈ ds, ∃ nb : Bool, d = .bool nb) ∧ ∃ z19 : Option Sl, e' = [some (Sl.val (U.scr (List.map PyData.int ns))), some (Sl.val U.pot), z2, some (Sl.val (U.d (PyData.int ↑st))), some (Sl.val (U.d (PyData.int ↑n))), some (Sl.val (U.d (lookD w A))), some (Sl.val (U.d (lookD v B))), some (Sl.val (U.d (lookD u C))), z8, z9, z10, some (Sl.val (U.d (PyData.str (PyData.list [lookD w A, lookD v B, lookD u C]).shown))), some (Sl.val (U.d (distD w A v B))), z13, z14, z15, z16, z17, some (Sl.val (U.d (lookD x D))), z19, z20, z21, z22]) ?_ ?_ _ _ ⟨by simp, _, rfl⟩
              · rintro e ⟨_, z19, rfl⟩
                exact hT _ ⟨_, _, _, _, _, _, _, _, _, _, _, _, _, _, rfl⟩
              · rintro d ds e S2 ⟨hb, z19, rfl⟩ hS2
                obtain ⟨nb, rfl⟩ := hb d List.mem_cons_self
                have go := hS2 _ ⟨fun d hd => hb d (List.mem_cons_of_mem _ hd), some (Sl.val (U.d (PyData.bool nb))), rfl⟩
                have lD := dD.tab.len
                have s1 := dA.s1
                have l0 := dD.tab.row _ (rowA_mem (R := D) (i := 0) (Int.le_refl 0) (by omega))
                have ol : onSq (fun _ ds => gIx ds (U.d (PyData.int 1)) (onSq fun _ ds => gIx ds (U.d (PyData.int 0)) (onSq fun _ ds => ds.length = (1 + (n : Int) % 6).toNat))) (U.d (lookD x D)) := by
                  unfold lookD
                  simp only [mPut, gIx_0, gIx_1, gIx_2, allD_nil, allD_cons, mgUnl_l, mPar3, mAugI, mAugN, gRepO_l, gCatO_l, onFz_f, mExt, gIsB_b, mNewT, mPutT, mFreezeT, onDic_c, onTk_t, onTd_t, mLc2, gIsN_d, gIn, mAsg, mAndV, mOrV, gCh, Fd.isInt, Fd.isBl, Fd.isTup, Fd.isLst, Fd.isStr, enumD_len, mSeq, mSet, mSetO, mFor, mForD, mRet, mWhile, mPar, mParOE, mParEO, mParOO, mIfS, mDrop, mLc, mCons, mApp, mNext, mFreeze, mOr, mAnd, mIf, mNot, mB, mYes, entry, getV_v, getL_v, getL_o, onSq_l, onSq_t, onSq_s, onI_i, onIB_i, onIB_b, onB_b, onD_d, onOwn_o, onShow_d, onShowX_d, onDs, allD, gI_i, gAdd_i, gAdd_b, gSb_i, gSb_b, gMul_t, gAdd_l, gAdd_t, gAdd_s, gMul_i, gMul_l, gEq_d, gEqL, mgCons_c, mgTup_t, wipeE, List.set_cons_zero, List.set_cons_succ, List.getElem?_cons_zero, List.getElem?_cons_succ, List.map_cons, List.map_nil, List.length_cons, List.length_nil, List.replicate_succ, List.replicate_zero, List.cons_append, List.nil_append, Nat.reduceAdd, Nat.reduceSub, Nat.zero_add, Option.map_some, Option.map_none, decide_eq_true_eq, Nat.reduceLeDiff, true_and, if_true, Bool.false_eq_true, if_false, eqb_intT, eqb_strT, eqv_int, eqv_str, Bool.not_eq_true', decide_eq_false_iff_not, Bool.not_true, seqD, eqv_nil, eqv_nilT, ne_eq, reduceCtorEq, not_false_eq_true, nDivisor, nFraction, nDistances, nLPot, nLDraw, nLPick, nLCommon, nLFraction, nLLowest, nLShares, nLLook, nLLess, nLGaps, nLAsked, nLaw]
                  refine gIx_mk (rowsD_at (Int.le_refl 0) (by omega)) ?_
                  simp only [mPut, gIx_0, gIx_1, gIx_2, allD_nil, allD_cons, mgUnl_l, mPar3, mAugI, mAugN, gRepO_l, gCatO_l, onFz_f, mExt, gIsB_b, mNewT, mPutT, mFreezeT, onDic_c, onTk_t, onTd_t, mLc2, gIsN_d, gIn, mAsg, mAndV, mOrV, gCh, Fd.isInt, Fd.isBl, Fd.isTup, Fd.isLst, Fd.isStr, enumD_len, mSeq, mSet, mSetO, mFor, mForD, mRet, mWhile, mPar, mParOE, mParEO, mParOO, mIfS, mDrop, mLc, mCons, mApp, mNext, mFreeze, mOr, mAnd, mIf, mNot, mB, mYes, entry, getV_v, getL_v, getL_o, onSq_l, onSq_t, onSq_s, onI_i, onIB_i, onIB_b, onB_b, onD_d, onOwn_o, onShow_d, onShowX_d, onDs, allD, gI_i, gAdd_i, gAdd_b, gSb_i, gSb_b, gMul_t, gAdd_l, gAdd_t, gAdd_s, gMul_i, gMul_l, gEq_d, gEqL, mgCons_c, mgTup_t, wipeE, List.set_cons_zero, List.set_cons_succ, List.getElem?_cons_zero, List.getElem?_cons_succ, List.map_cons, List.map_nil, List.length_cons, List.length_nil, List.replicate_succ, List.replicate_zero, List.cons_append, List.nil_append, Nat.reduceAdd, Nat.reduceSub, Nat.zero_add, Option.map_some, Option.map_none, decide_eq_true_eq, Nat.reduceLeDiff, true_and, if_true, Bool.false_eq_true, if_false, eqb_intT, eqb_strT, eqv_int, eqv_str, Bool.not_eq_true', decide_eq_false_iff_not, Bool.not_true, seqD, eqv_nil, eqv_nilT, ne_eq, reduceCtorEq, not_false_eq_true, nDivisor, nFraction, nDistances, nLPot, nLDraw, nLPick, nLCommon, nLFraction, nLLowest, nLShares, nLLook, nLLess, nLGaps, nLAsked, nLaw]
                  rw [List.length_map]
                  exact l0
                have dxw : PyData.eqv unfitD (PyData.list [PyData.str (Str.ofString "unfit"), PyData.bool true]) = true := by decide +kernel
                simp only [mPut, gIx_0, gIx_1, gIx_2, allD_nil, allD_cons, mgUnl_l, mPar3, mAugI, mAugN, gRepO_l, gCatO_l, onFz_f, mExt, gIsB_b, mNewT, mPutT, mFreezeT, onDic_c, onTk_t, onTd_t, mLc2, gIsN_d, gIn, mAsg, mAndV, mOrV, gCh, Fd.isInt, Fd.isBl, Fd.isTup, Fd.isLst, Fd.isStr, enumD_len, mSeq, mSet, mSetO, mFor, mForD, mRet, mWhile, mPar, mParOE, mParEO, mParOO, mIfS, mDrop, mLc, mCons, mApp, mNext, mFreeze, mOr, mAnd, mIf, mNot, mB, mYes, entry, getV_v, getL_v, getL_o, onSq_l, onSq_t, onSq_s, onI_i, onIB_i, onIB_b, onB_b, onD_d, onOwn_o, onShow_d, onShowX_d, onDs, allD, gI_i, gAdd_i, gAdd_b, gSb_i, gSb_b, gMul_t, gAdd_l, gAdd_t, gAdd_s, gMul_i, gMul_l, gEq_d, gEqL, mgCons_c, mgTup_t, wipeE, List.set_cons_zero, List.set_cons_succ, List.getElem?_cons_zero, List.getElem?_cons_succ, List.map_cons, List.map_nil, List.length_cons, List.length_nil, List.replicate_succ, List.replicate_zero, List.cons_append, List.nil_append, Nat.reduceAdd, Nat.reduceSub, Nat.zero_add, Option.map_some, Option.map_none, decide_eq_true_eq, Nat.reduceLeDiff, true_and, if_true, Bool.false_eq_true, if_false, eqb_intT, eqb_strT, eqv_int, eqv_str, Bool.not_eq_true', decide_eq_false_iff_not, Bool.not_true, seqD, eqv_nil, eqv_nilT, ne_eq, reduceCtorEq, not_false_eq_true, nDivisor, nFraction, nDistances, nLPot, nLDraw, nLPick, nLCommon, nLFraction, nLLowest, nLShares, nLLook, nLLess, nLGaps, nLAsked, nLaw]
                generalize hL : lookD x D = LL at *
                have e1 := hL.symm
                unfold lookD at e1
                rw [e1]
                simp only [mPut, gIx_0, gIx_1, gIx_2, allD_nil, allD_cons, mgUnl_l, mPar3, mAugI, mAugN, gRepO_l, gCatO_l, onFz_f, mExt, gIsB_b, mNewT, mPutT, mFreezeT, onDic_c, onTk_t, onTd_t, mLc2, gIsN_d, gIn, mAsg, mAndV, mOrV, gCh, Fd.isInt, Fd.isBl, Fd.isTup, Fd.isLst, Fd.isStr, enumD_len, mSeq, mSet, mSetO, mFor, mForD, mRet, mWhile, mPar, mParOE, mParEO, mParOO, mIfS, mDrop, mLc, mCons, mApp, mNext, mFreeze, mOr, mAnd, mIf, mNot, mB, mYes, entry, getV_v, getL_v, getL_o, onSq_l, onSq_t, onSq_s, onI_i, onIB_i, onIB_b, onB_b, onD_d, onOwn_o, onShow_d, onShowX_d, onDs, allD, gI_i, gAdd_i, gAdd_b, gSb_i, gSb_b, gMul_t, gAdd_l, gAdd_t, gAdd_s, gMul_i, gMul_l, gEq_d, gEqL, mgCons_c, mgTup_t, wipeE, List.set_cons_zero, List.set_cons_succ, List.getElem?_cons_zero, List.getElem?_cons_succ, List.map_cons, List.map_nil, List.length_cons, List.length_nil, List.replicate_succ, List.replicate_zero, List.cons_append, List.nil_append, Nat.reduceAdd, Nat.reduceSub, Nat.zero_add, Option.map_some, Option.map_none, decide_eq_true_eq, Nat.reduceLeDiff, true_and, if_true, Bool.false_eq_true, if_false, eqb_intT, eqb_strT, eqv_int, eqv_str, Bool.not_eq_true', decide_eq_false_iff_not, Bool.not_true, seqD, eqv_nil, eqv_nilT, ne_eq, reduceCtorEq, not_false_eq_true, nDivisor, nFraction, nDistances, nLPot, nLDraw, nLPick, nLCommon, nLFraction, nLLowest, nLShares, nLLook, nLLess, nLGaps, nLAsked, nLaw]
                refine gIx_mk (rowsD_at (Int.le_refl 0) (by omega)) ?_
                simp only [mPut, gIx_0, gIx_1, gIx_2, allD_nil, allD_cons, mgUnl_l, mPar3, mAugI, mAugN, gRepO_l, gCatO_l, onFz_f, mExt, gIsB_b, mNewT, mPutT, mFreezeT, onDic_c, onTk_t, onTd_t, mLc2, gIsN_d, gIn, mAsg, mAndV, mOrV, gCh, Fd.isInt, Fd.isBl, Fd.isTup, Fd.isLst, Fd.isStr, enumD_len, mSeq, mSet, mSetO, mFor, mForD, mRet, mWhile, mPar, mParOE, mParEO, mParOO, mIfS, mDrop, mLc, mCons, mApp, mNext, mFreeze, mOr, mAnd, mIf, mNot, mB, mYes, entry, getV_v, getL_v, getL_o, onSq_l, onSq_t, onSq_s, onI_i, onIB_i, onIB_b, onB_b, onD_d, onOwn_o, onShow_d, onShowX_d, onDs, allD, gI_i, gAdd_i, gAdd_b, gSb_i, gSb_b, gMul_t, gAdd_l, gAdd_t, gAdd_s, gMul_i, gMul_l, gEq_d, gEqL, mgCons_c, mgTup_t, wipeE, List.set_cons_zero, List.set_cons_succ, List.getElem?_cons_zero, List.getElem?_cons_succ, List.map_cons, List.map_nil, List.length_cons, List.length_nil, List.replicate_succ, List.replicate_zero, List.cons_append, List.nil_append, Nat.reduceAdd, Nat.reduceSub, Nat.zero_add, Option.map_some, Option.map_none, decide_eq_true_eq, Nat.reduceLeDiff, true_and, if_true, Bool.false_eq_true, if_false, eqb_intT, eqb_strT, eqv_int, eqv_str, Bool.not_eq_true', decide_eq_false_iff_not, Bool.not_true, seqD, eqv_nil, eqv_nilT, ne_eq, reduceCtorEq, not_false_eq_true, nDivisor, nFraction, nDistances, nLPot, nLDraw, nLPick, nLCommon, nLFraction, nLLowest, nLShares, nLLook, nLLess, nLGaps, nLAsked, nLaw]
                rw [List.length_map, l0, ← e1, ← hL]
                rw [← hL] at go
                by_cases nm : (n : Int) = (((1 + (n : Int) % 6).toNat : Nat) : Int)
                · rw [if_neg (by simpa using nm)]
                  exact go
                · rw [if_pos nm]
                  refine ⟨st, n, _, w, A, x, D, nb, rfl, dA, dD, fun h => absurd (by omega) nm, fun _ => ?_⟩
                  dsimp only
                  rw [gEq_d]
                  refine ⟨⟨by decide +kernel, by decide +kernel, by decide +kernel⟩, ?_⟩
                  rw [if_pos rfl, dxw]
                  simp only [mPut, gIx_0, gIx_1, gIx_2, allD_nil, allD_cons, mgUnl_l, mPar3, mAugI, mAugN, gRepO_l, gCatO_l, onFz_f, mExt, gIsB_b, mNewT, mPutT, mFreezeT, onDic_c, onTk_t, onTd_t, mLc2, gIsN_d, gIn, mAsg, mAndV, mOrV, gCh, Fd.isInt, Fd.isBl, Fd.isTup, Fd.isLst, Fd.isStr, enumD_len, mSeq, mSet, mSetO, mFor, mForD, mRet, mWhile, mPar, mParOE, mParEO, mParOO, mIfS, mDrop, mLc, mCons, mApp, mNext, mFreeze, mOr, mAnd, mIf, mNot, mB, mYes, entry, getV_v, getL_v, getL_o, onSq_l, onSq_t, onSq_s, onI_i, onIB_i, onIB_b, onB_b, onD_d, onOwn_o, onShow_d, onShowX_d, onDs, allD, gI_i, gAdd_i, gAdd_b, gSb_i, gSb_b, gMul_t, gAdd_l, gAdd_t, gAdd_s, gMul_i, gMul_l, gEq_d, gEqL, mgCons_c, mgTup_t, wipeE, List.set_cons_zero, List.set_cons_succ, List.getElem?_cons_zero, List.getElem?_cons_succ, List.map_cons, List.map_nil, List.length_cons, List.length_nil, List.replicate_succ, List.replicate_zero, List.cons_append, List.nil_append, Nat.reduceAdd, Nat.reduceSub, Nat.zero_add, Option.map_some, Option.map_none, decide_eq_true_eq, Nat.reduceLeDiff, true_and, if_true, Bool.false_eq_true, if_false, eqb_intT, eqb_strT, eqv_int, eqv_str, Bool.not_eq_true', decide_eq_false_iff_not, Bool.not_true, seqD, eqv_nil, eqv_nilT, ne_eq, reduceCtorEq, not_false_eq_true, nDivisor, nFraction, nDistances, nLPot, nLDraw, nLPick, nLCommon, nLFraction, nLLowest, nLShares, nLLook, nLLess, nLGaps, nLAsked, nLaw]
                  exact go
          · intro T hT
            simp only [mPut, gIx_0, gIx_1, gIx_2, allD_nil, allD_cons, mgUnl_l, mPar3, mAugI, mAugN, gRepO_l, gCatO_l, onFz_f, mExt, gIsB_b, mNewT, mPutT, mFreezeT, onDic_c, onTk_t, onTd_t, mLc2, gIsN_d, gIn, mAsg, mAndV, mOrV, gCh, Fd.isInt, Fd.isBl, Fd.isTup, Fd.isLst, Fd.isStr, enumD_len, mSeq, mSet, mSetO, mFor, mForD, mRet, mWhile, mPar, mParOE, mParEO, mParOO, mIfS, mDrop, mLc, mCons, mApp, mNext, mFreeze, mOr, mAnd, mIf, mNot, mB, mYes, entry, getV_v, getL_v, getL_o, onSq_l, onSq_t, onSq_s, onI_i, onIB_i, onIB_b, onB_b, onD_d, onOwn_o, onShow_d, onShowX_d, onDs, allD, gI_i, gAdd_i, gAdd_b, gSb_i, gSb_b, gMul_t, gAdd_l, gAdd_t, gAdd_s, gMul_i, gMul_l, gEq_d, gEqL, mgCons_c, mgTup_t, wipeE, List.set_cons_zero, List.set_cons_succ, List.getElem?_cons_zero, List.getElem?_cons_succ, List.map_cons, List.map_nil, List.length_cons, List.length_nil, List.replicate_succ, List.replicate_zero, List.cons_append, List.nil_append, Nat.reduceAdd, Nat.reduceSub, Nat.zero_add, Option.map_some, Option.map_none, decide_eq_true_eq, Nat.reduceLeDiff, true_and, if_true, Bool.false_eq_true, if_false, eqb_intT, eqb_strT, eqv_int, eqv_str, Bool.not_eq_true', decide_eq_false_iff_not, Bool.not_true, seqD, eqv_nil, eqv_nilT, ne_eq, reduceCtorEq, not_false_eq_true, nDivisor, nFraction, nDistances, nLPot, nLDraw, nLPick, nLCommon, nLFraction, nLLowest, nLShares, nLLook, nLLess, nLGaps, nLAsked, nLaw]
            refine ⟨st, n, n, w, A, u, C, rfl, dA, dC, fun _ => ?_, fun h => absurd rfl h⟩
            refine ⟨st, n, n, w, A, v, B, rfl, dA, dB, fun _ => ?_, fun h => absurd rfl h⟩
            refine ⟨st, n, n, v, B, u, C, rfl, dB, dC, fun _ => ?_, fun h => absurd rfl h⟩
            have lA := dA.tab.len
            have lB := dB.tab.len
            have lC := dC.tab.len
            refine ⟨[distD w A u C, distD w A v B, distD v B u C], st, [(A.zip C).map fun p => fracW (gapT w u p.1 p.2) (2 * w * u), (A.zip B).map fun p => fracW (gapT w v p.1 p.2) (2 * w * v), (B.zip C).map fun p => fracW (gapT v u p.1 p.2) (2 * v * u)], rfl, ⟨rfl, by simp, by simp, ?_⟩, ?_⟩
            · simp only [List.mem_cons, List.not_mem_nil, or_false]
              rintro r (rfl | rfl | rfl) <;> rw [List.length_map, List.length_zip] <;> omega
            · unfold colsD
              refine forL_idx (List.range st) _ (fun i e' => ∃ z15 z16 z17 : Option Sl, e' = [some (Sl.val (U.scr (List.map PyData.int ns))), some (Sl.val U.pot), z2, some (Sl.val (U.d (PyData.int ↑st))), some (Sl.val (U.d (PyData.int ↑n))), some (Sl.val (U.d (lookD w A))), some (Sl.val (U.d (lookD v B))), some (Sl.val (U.d (lookD u C))), z8, z9, z10, some (Sl.val (U.d (PyData.str (PyData.list [lookD w A, lookD v B, lookD u C]).shown))), some (Sl.val (U.d (distD w A v B))), z13, z14, z15, z16, z17, z18, z19, z20, z21, z22]) ?_ ?_ _ ⟨_, _, _, rfl⟩
              · rintro e ⟨z15, z16, z17, rfl⟩
                exact hT _ ⟨_, _, _, _, _, _, _, _, _, _, _, _, _, _, rfl⟩
              · rintro i hi e S2 ⟨z15, z16, z17, rfl⟩ hS2
                have go := fun a b c => hS2 _ ⟨a, b, c, rfl⟩
                rw [List.length_range] at hi
                have iA : i < A.length := by omega
                have iB : i < B.length := by omega
                have iC : i < C.length := by omega
                have at_ : ∀ (R V : List (List Int)) (a b : Int) (hR : i < R.length) (hV : i < V.length), ((R.zip V).map fun p => fracW (gapT a b p.1 p.2) (2 * a * b)).getD i .none = fracW (gapT a b R[i] V[i]) (2 * a * b) := fun R V a b hR hV => by
                  rw [List.getD_eq_getElem?_getD, List.getElem?_map, List.getElem?_eq_getElem (by rw [List.length_zip]; omega), List.getElem_zip]
                  rfl
                rw [List.getElem_range, List.map_cons, List.map_cons, List.map_cons, List.map_nil, at_ A C w u iA iC, at_ A B w v iA iB, at_ B C v u iB iC]
                unfold fracW
                simp only [mPut, gIx_0, gIx_1, gIx_2, allD_nil, allD_cons, mgUnl_l, mPar3, mAugI, mAugN, gRepO_l, gCatO_l, onFz_f, mExt, gIsB_b, mNewT, mPutT, mFreezeT, onDic_c, onTk_t, onTd_t, mLc2, gIsN_d, gIn, mAsg, mAndV, mOrV, gCh, Fd.isInt, Fd.isBl, Fd.isTup, Fd.isLst, Fd.isStr, enumD_len, mSeq, mSet, mSetO, mFor, mForD, mRet, mWhile, mPar, mParOE, mParEO, mParOO, mIfS, mDrop, mLc, mCons, mApp, mNext, mFreeze, mOr, mAnd, mIf, mNot, mB, mYes, entry, getV_v, getL_v, getL_o, onSq_l, onSq_t, onSq_s, onI_i, onIB_i, onIB_b, onB_b, onD_d, onOwn_o, onShow_d, onShowX_d, onDs, allD, gI_i, gAdd_i, gAdd_b, gSb_i, gSb_b, gMul_t, gAdd_l, gAdd_t, gAdd_s, gMul_i, gMul_l, gEq_d, gEqL, mgCons_c, mgTup_t, wipeE, List.set_cons_zero, List.set_cons_succ, List.getElem?_cons_zero, List.getElem?_cons_succ, List.map_cons, List.map_nil, List.length_cons, List.length_nil, List.replicate_succ, List.replicate_zero, List.cons_append, List.nil_append, Nat.reduceAdd, Nat.reduceSub, Nat.zero_add, Option.map_some, Option.map_none, decide_eq_true_eq, Nat.reduceLeDiff, true_and, if_true, Bool.false_eq_true, if_false, eqb_intT, eqb_strT, eqv_int, eqv_str, Bool.not_eq_true', decide_eq_false_iff_not, Bool.not_true, seqD, eqv_nil, eqv_nilT, ne_eq, reduceCtorEq, not_false_eq_true, nDivisor, nFraction, nDistances, nLPot, nLDraw, nLPick, nLCommon, nLFraction, nLLowest, nLShares, nLLook, nLLess, nLGaps, nLAsked, nLaw]
                have w1 := dA.w1
                have w2 := dA.w2
                have v1 := dB.w1
                have v2 := dB.w2
                have u1 := dC.w1
                have u2 := dC.w2
                have mA : A[i] ∈ A := List.getElem_mem iA
                have mB : B[i] ∈ B := List.getElem_mem iB
                have mC : C[i] ∈ C := List.getElem_mem iC
                have tg := tri_gap (w := w) (v := v) (u := u) (by omega) (by omega) (by omega) (r := A[i]) (s := B[i]) (t := C[i]) (by rw [dA.tab.row _ mA, dB.tab.row _ mB]) (by rw [dB.tab.row _ mB, dC.tab.row _ mC])
                have tf := tri_frac (w := w) (v := v) (u := u) (by omega) (by omega) (by omega) tg
                have p1 : 0 < 2 * w * v := Int.mul_pos (by omega) (by omega)
                have p2 : 0 < 2 * v * u := Int.mul_pos (by omega) (by omega)
                have p3 : 0 < 2 * w * u := Int.mul_pos (by omega) (by omega)
                have q1 : 2 * w * v ≤ 120 * 60 := Int.mul_le_mul (by omega) v2 (by omega) (by decide)
                have q2 : 2 * v * u ≤ 120 * 60 := Int.mul_le_mul (by omega) u2 (by omega) (by decide)
                have q3 : 2 * w * u ≤ 120 * 60 := Int.mul_le_mul (by omega) u2 (by omega) (by decide)
                have b1 := fracB_pos (gapT w v A[i] B[i]) p1
                have b2 := fracB_pos (gapT v u B[i] C[i]) p2
                have b3 := fracB_pos (gapT w u A[i] C[i]) p3
                dsimp only at tf
                generalize gapT w v A[i] B[i] = g12 at *
                generalize gapT v u B[i] C[i] = g23 at *
                generalize gapT w u A[i] C[i] = g13 at *
                have bb : 0 < fracB g12 (2 * w * v) * fracB g23 (2 * v * u) := Int.mul_pos b1.1 b2.1
                have bb2 : fracB g12 (2 * w * v) * fracB g23 (2 * v * u) ≤ (120 * 60) * (120 * 60) := Int.mul_le_mul (by omega) (by omega) (by omega) (by decide)
                have bX := fracB_pos (fracA g12 (2 * w * v) * fracB g23 (2 * v * u) + fracA g23 (2 * v * u) * fracB g12 (2 * w * v)) bb
                refine ⟨cmr (by omega) (by omega), cmr (by omega) (by omega), cmr (by omega) (by omega), _, _, rfl, bb, Int.le_trans bb2 (by decide), ?_⟩
                refine ⟨_, _, _, _, rfl, by omega, by omega, by omega, by omega, ?_⟩
                rw [decide_eq_false tf]
                simp only [mPut, gIx_0, gIx_1, gIx_2, allD_nil, allD_cons, mgUnl_l, mPar3, mAugI, mAugN, gRepO_l, gCatO_l, onFz_f, mExt, gIsB_b, mNewT, mPutT, mFreezeT, onDic_c, onTk_t, onTd_t, mLc2, gIsN_d, gIn, mAsg, mAndV, mOrV, gCh, Fd.isInt, Fd.isBl, Fd.isTup, Fd.isLst, Fd.isStr, enumD_len, mSeq, mSet, mSetO, mFor, mForD, mRet, mWhile, mPar, mParOE, mParEO, mParOO, mIfS, mDrop, mLc, mCons, mApp, mNext, mFreeze, mOr, mAnd, mIf, mNot, mB, mYes, entry, getV_v, getL_v, getL_o, onSq_l, onSq_t, onSq_s, onI_i, onIB_i, onIB_b, onB_b, onD_d, onOwn_o, onShow_d, onShowX_d, onDs, allD, gI_i, gAdd_i, gAdd_b, gSb_i, gSb_b, gMul_t, gAdd_l, gAdd_t, gAdd_s, gMul_i, gMul_l, gEq_d, gEqL, mgCons_c, mgTup_t, wipeE, List.set_cons_zero, List.set_cons_succ, List.getElem?_cons_zero, List.getElem?_cons_succ, List.map_cons, List.map_nil, List.length_cons, List.length_nil, List.replicate_succ, List.replicate_zero, List.cons_append, List.nil_append, Nat.reduceAdd, Nat.reduceSub, Nat.zero_add, Option.map_some, Option.map_none, decide_eq_true_eq, Nat.reduceLeDiff, true_and, if_true, Bool.false_eq_true, if_false, eqb_intT, eqb_strT, eqv_int, eqv_str, Bool.not_eq_true', decide_eq_false_iff_not, Bool.not_true, seqD, eqv_nil, eqv_nilT, ne_eq, reduceCtorEq, not_false_eq_true, nDivisor, nFraction, nDistances, nLPot, nLDraw, nLPick, nLCommon, nLFraction, nLLowest, nLShares, nLLook, nLLess, nLGaps, nLAsked, nLaw]
                exact go _ _ _
        · intro T hT
          simp only [mPut, gIx_0, gIx_1, gIx_2, allD_nil, allD_cons, mgUnl_l, mPar3, mAugI, mAugN, gRepO_l, gCatO_l, onFz_f, mExt, gIsB_b, mNewT, mPutT, mFreezeT, onDic_c, onTk_t, onTd_t, mLc2, gIsN_d, gIn, mAsg, mAndV, mOrV, gCh, Fd.isInt, Fd.isBl, Fd.isTup, Fd.isLst, Fd.isStr, enumD_len, mSeq, mSet, mSetO, mFor, mForD, mRet, mWhile, mPar, mParOE, mParEO, mParOO, mIfS, mDrop, mLc, mCons, mApp, mNext, mFreeze, mOr, mAnd, mIf, mNot, mB, mYes, entry, getV_v, getL_v, getL_o, onSq_l, onSq_t, onSq_s, onI_i, onIB_i, onIB_b, onB_b, onD_d, onOwn_o, onShow_d, onShowX_d, onDs, allD, gI_i, gAdd_i, gAdd_b, gSb_i, gSb_b, gMul_t, gAdd_l, gAdd_t, gAdd_s, gMul_i, gMul_l, gEq_d, gEqL, mgCons_c, mgTup_t, wipeE, List.set_cons_zero, List.set_cons_succ, List.getElem?_cons_zero, List.getElem?_cons_succ, List.map_cons, List.map_nil, List.length_cons, List.length_nil, List.replicate_succ, List.replicate_zero, List.cons_append, List.nil_append, Nat.reduceAdd, Nat.reduceSub, Nat.zero_add, Option.map_some, Option.map_none, decide_eq_true_eq, Nat.reduceLeDiff, true_and, if_true, Bool.false_eq_true, if_false, eqb_intT, eqb_strT, eqv_int, eqv_str, Bool.not_eq_true', decide_eq_false_iff_not, Bool.not_true, seqD, eqv_nil, eqv_nilT, ne_eq, reduceCtorEq, not_false_eq_true, nDivisor, nFraction, nDistances, nLPot, nLDraw, nLPick, nLCommon, nLFraction, nLLowest, nLShares, nLLook, nLLess, nLGaps, nLAsked, nLaw]
          have w1 := dA.w1
          have w2 := dA.w2
          have v1 := dB.w1
          have v2 := dB.w2
          have s1 := dA.s1
          have s4 := dA.s4
          have n6 := dA.n6
          have lA := dA.tab.len
          have lB := dB.tab.len
          unfold lookD
          simp only [mPut, gIx_0, gIx_1, gIx_2, allD_nil, allD_cons, mgUnl_l, mPar3, mAugI, mAugN, gRepO_l, gCatO_l, onFz_f, mExt, gIsB_b, mNewT, mPutT, mFreezeT, onDic_c, onTk_t, onTd_t, mLc2, gIsN_d, gIn, mAsg, mAndV, mOrV, gCh, Fd.isInt, Fd.isBl, Fd.isTup, Fd.isLst, Fd.isStr, enumD_len, mSeq, mSet, mSetO, mFor, mForD, mRet, mWhile, mPar, mParOE, mParEO, mParOO, mIfS, mDrop, mLc, mCons, mApp, mNext, mFreeze, mOr, mAnd, mIf, mNot, mB, mYes, entry, getV_v, getL_v, getL_o, onSq_l, onSq_t, onSq_s, onI_i, onIB_i, onIB_b, onB_b, onD_d, onOwn_o, onShow_d, onShowX_d, onDs, allD, gI_i, gAdd_i, gAdd_b, gSb_i, gSb_b, gMul_t, gAdd_l, gAdd_t, gAdd_s, gMul_i, gMul_l, gEq_d, gEqL, mgCons_c, mgTup_t, wipeE, List.set_cons_zero, List.set_cons_succ, List.getElem?_cons_zero, List.getElem?_cons_succ, List.map_cons, List.map_nil, List.length_cons, List.length_nil, List.replicate_succ, List.replicate_zero, List.cons_append, List.nil_append, Nat.reduceAdd, Nat.reduceSub, Nat.zero_add, Option.map_some, Option.map_none, decide_eq_true_eq, Nat.reduceLeDiff, true_and, if_true, Bool.false_eq_true, if_false, eqb_intT, eqb_strT, eqv_int, eqv_str, Bool.not_eq_true', decide_eq_false_iff_not, Bool.not_true, seqD, eqv_nil, eqv_nilT, ne_eq, reduceCtorEq, not_false_eq_true, nDivisor, nFraction, nDistances, nLPot, nLDraw, nLPick, nLCommon, nLFraction, nLLowest, nLShares, nLLook, nLLess, nLGaps, nLAsked, nLaw]
          refine ⟨w, _, A, rfl, .inr rfl, w1, Int.le_trans w2 (by decide), by omega, fun r hr => ⟨by rw [dA.tab.row r hr]; omega, fun x hx => (dA.tab.ent r hr x hx).1⟩, ?_⟩
          refine ⟨v, _, B, rfl, .inr rfl, v1, Int.le_trans v2 (by decide), by omega, fun r hr => ⟨by rw [dB.tab.row r hr]; omega, fun x hx => (dB.tab.ent r hr x hx).1⟩, ?_⟩
          have la := lowW_le (R := A) w1
          have lb := lowW_le (R := B) v1
          have sa : Sh 30000 3 (lowM w A) := sh_look ((lowR_tab w1 dA.tab).le (by decide)) (by omega) (by omega) (by omega) (by omega)
          have sb : Sh 30000 3 (lowM v B) := sh_look ((lowR_tab v1 dB.tab).le (by decide)) (by omega) (by omega) (by omega) (by omega)
          have da := sa.deep
          have sd := sh_dist dA dB
          have dd := sd.deep
          dsimp only
          rw [gEq_d, if_neg (by decide)]
          have ez : (List.replicate ((st : Nat) : Int).toNat [PyData.tuple [PyData.int 0, PyData.int 1]]).flatten = List.replicate st (.tuple [.int 0, .int 1]) := by rw [List.flatten_replicate_singleton]; rfl
          rw [ez]
          have pz : (PyData.tuple (List.replicate st (.tuple [.int 0, .int 1]))).plain = true := by
            have := sh_tup (s := 89) (k := 1) (ds := List.replicate st (PyData.tuple [.int 0, .int 1])) fun d hd => by
              rw [(List.mem_replicate.mp hd).2]
              exact ⟨by decide +kernel, by decide +kernel, by decide +kernel, by decide +kernel⟩
            exact this.plain
          refine ⟨⟨sa.plain, sb.plain, by omega⟩, ⟨by simp, by omega, by omega, by simp⟩, ⟨sd.plain, pz, by omega⟩, ?_⟩
          rw [same_eqv dA dB, gEq_d]
          refine ⟨⟨by simp only [PyData.plain], by simp only [PyData.plain], by simp [PyData.depth]⟩, ?_⟩
          have eb : ∀ b : Bool, (PyData.bool b).eqv (PyData.bool b) = true := fun b => by cases b <;> decide
          rw [if_pos rfl, eb]
          simp only [mPut, gIx_0, gIx_1, gIx_2, allD_nil, allD_cons, mgUnl_l, mPar3, mAugI, mAugN, gRepO_l, gCatO_l, onFz_f, mExt, gIsB_b, mNewT, mPutT, mFreezeT, onDic_c, onTk_t, onTd_t, mLc2, gIsN_d, gIn, mAsg, mAndV, mOrV, gCh, Fd.isInt, Fd.isBl, Fd.isTup, Fd.isLst, Fd.isStr, enumD_len, mSeq, mSet, mSetO, mFor, mForD, mRet, mWhile, mPar, mParOE, mParEO, mParOO, mIfS, mDrop, mLc, mCons, mApp, mNext, mFreeze, mOr, mAnd, mIf, mNot, mB, mYes, entry, getV_v, getL_v, getL_o, onSq_l, onSq_t, onSq_s, onI_i, onIB_i, onIB_b, onB_b, onD_d, onOwn_o, onShow_d, onShowX_d, onDs, allD, gI_i, gAdd_i, gAdd_b, gSb_i, gSb_b, gMul_t, gAdd_l, gAdd_t, gAdd_s, gMul_i, gMul_l, gEq_d, gEqL, mgCons_c, mgTup_t, wipeE, List.set_cons_zero, List.set_cons_succ, List.getElem?_cons_zero, List.getElem?_cons_succ, List.map_cons, List.map_nil, List.length_cons, List.length_nil, List.replicate_succ, List.replicate_zero, List.cons_append, List.nil_append, Nat.reduceAdd, Nat.reduceSub, Nat.zero_add, Option.map_some, Option.map_none, decide_eq_true_eq, Nat.reduceLeDiff, true_and, if_true, Bool.false_eq_true, if_false, eqb_intT, eqb_strT, eqv_int, eqv_str, Bool.not_eq_true', decide_eq_false_iff_not, Bool.not_true, seqD, eqv_nil, eqv_nilT, ne_eq, reduceCtorEq, not_false_eq_true, nDivisor, nFraction, nDistances, nLPot, nLDraw, nLPick, nLCommon, nLFraction, nLLowest, nLShares, nLLook, nLLess, nLGaps, nLAsked, nLaw]
          exact hT _ ⟨_, _, _, _, _, _, _, _, _, _, _, _, _, _, rfl⟩
      · intro T hT
        simp only [mPut, gIx_0, gIx_1, gIx_2, allD_nil, allD_cons, mgUnl_l, mPar3, mAugI, mAugN, gRepO_l, gCatO_l, onFz_f, mExt, gIsB_b, mNewT, mPutT, mFreezeT, onDic_c, onTk_t, onTd_t, mLc2, gIsN_d, gIn, mAsg, mAndV, mOrV, gCh, Fd.isInt, Fd.isBl, Fd.isTup, Fd.isLst, Fd.isStr, enumD_len, mSeq, mSet, mSetO, mFor, mForD, mRet, mWhile, mPar, mParOE, mParEO, mParOO, mIfS, mDrop, mLc, mCons, mApp, mNext, mFreeze, mOr, mAnd, mIf, mNot, mB, mYes, entry, getV_v, getL_v, getL_o, onSq_l, onSq_t, onSq_s, onI_i, onIB_i, onIB_b, onB_b, onD_d, onOwn_o, onShow_d, onShowX_d, onDs, allD, gI_i, gAdd_i, gAdd_b, gSb_i, gSb_b, gMul_t, gAdd_l, gAdd_t, gAdd_s, gMul_i, gMul_l, gEq_d, gEqL, mgCons_c, mgTup_t, wipeE, List.set_cons_zero, List.set_cons_succ, List.getElem?_cons_zero, List.getElem?_cons_succ, List.map_cons, List.map_nil, List.length_cons, List.length_nil, List.replicate_succ, List.replicate_zero, List.cons_append, List.nil_append, Nat.reduceAdd, Nat.reduceSub, Nat.zero_add, Option.map_some, Option.map_none, decide_eq_true_eq, Nat.reduceLeDiff, true_and, if_true, Bool.false_eq_true, if_false, eqb_intT, eqb_strT, eqv_int, eqv_str, Bool.not_eq_true', decide_eq_false_iff_not, Bool.not_true, seqD, eqv_nil, eqv_nilT, ne_eq, reduceCtorEq, not_false_eq_true, nDivisor, nFraction, nDistances, nLPot, nLDraw, nLPick, nLCommon, nLFraction, nLLowest, nLShares, nLLook, nLLess, nLGaps, nLAsked, nLaw]
        have w1 := dA.w1
        have w2 := dA.w2
        refine ⟨(sh_three dA.sh dB.sh dC.sh).showsX (by decide) (by decide), st, n, w, A, v, B, rfl, dA.tab.le (by decide), w1, by omega, dB.lo, ?_⟩
        refine ⟨st, n, n, w, A, v, B, false, rfl, dA, dB, fun _ => ?_, fun h => absurd rfl h⟩
        refine ⟨st, n, n, v, B, w, A, true, rfl, dB, dA, fun _ => ?_, fun h => absurd rfl h⟩
        refine ⟨st, n, n, w, A, v, B, true, rfl, dA, dB, fun _ => ?_, fun h => absurd rfl h⟩
        rw [distD_comm v B w A]
        have sd := sh_told (sh_dist dA dB)
        have s3 := (sh_three sd sd sd).showsX (by decide) (by decide)
        simp only [mPut, gIx_0, gIx_1, gIx_2, allD_nil, allD_cons, mgUnl_l, mPar3, mAugI, mAugN, gRepO_l, gCatO_l, onFz_f, mExt, gIsB_b, mNewT, mPutT, mFreezeT, onDic_c, onTk_t, onTd_t, mLc2, gIsN_d, gIn, mAsg, mAndV, mOrV, gCh, Fd.isInt, Fd.isBl, Fd.isTup, Fd.isLst, Fd.isStr, enumD_len, mSeq, mSet, mSetO, mFor, mForD, mRet, mWhile, mPar, mParOE, mParEO, mParOO, mIfS, mDrop, mLc, mCons, mApp, mNext, mFreeze, mOr, mAnd, mIf, mNot, mB, mYes, entry, getV_v, getL_v, getL_o, onSq_l, onSq_t, onSq_s, onI_i, onIB_i, onIB_b, onB_b, onD_d, onOwn_o, onShow_d, onShowX_d, onDs, allD, gI_i, gAdd_i, gAdd_b, gSb_i, gSb_b, gMul_t, gAdd_l, gAdd_t, gAdd_s, gMul_i, gMul_l, gEq_d, gEqL, mgCons_c, mgTup_t, wipeE, List.set_cons_zero, List.set_cons_succ, List.getElem?_cons_zero, List.getElem?_cons_succ, List.map_cons, List.map_nil, List.length_cons, List.length_nil, List.replicate_succ, List.replicate_zero, List.cons_append, List.nil_append, Nat.reduceAdd, Nat.reduceSub, Nat.zero_add, Option.map_some, Option.map_none, decide_eq_true_eq, Nat.reduceLeDiff, true_and, if_true, Bool.false_eq_true, if_false, eqb_intT, eqb_strT, eqv_int, eqv_str, Bool.not_eq_true', decide_eq_false_iff_not, Bool.not_true, seqD, eqv_nil, eqv_nilT, ne_eq, reduceCtorEq, not_false_eq_true, nDivisor, nFraction, nDistances, nLPot, nLDraw, nLPick, nLCommon, nLFraction, nLLowest, nLShares, nLLook, nLLess, nLGaps, nLAsked, nLaw]
        refine ⟨s3, ⟨by decide, by decide, by decide⟩, s3, ?_⟩
        have ee : (PyData.str (PyData.list [toldD (distD w A v B), toldD (distD w A v B), toldD (distD w A v B)]).shown).eqv (PyData.str (PyData.list (List.replicate (Int.toNat 3) [PyData.list [PyData.str (Str.ofString "told"), PyData.tuple (List.map (fun p => fracW (gapT w v p.fst p.snd) (2 * w * v)) (A.zip B))]]).flatten).shown) = true := eqv_str _
        rw [if_neg (by rw [ee]; decide)]
        exact hT _ ⟨_, _, _, _, _, _, _, _, _, _, _, _, _, _, rfl⟩
    · intro T hT
      simp only [mPut, gIx_0, gIx_1, gIx_2, allD_nil, allD_cons, mgUnl_l, mPar3, mAugI, mAugN, gRepO_l, gCatO_l, onFz_f, mExt, gIsB_b, mNewT, mPutT, mFreezeT, onDic_c, onTk_t, onTd_t, mLc2, gIsN_d, gIn, mAsg, mAndV, mOrV, gCh, Fd.isInt, Fd.isBl, Fd.isTup, Fd.isLst, Fd.isStr, enumD_len, mSeq, mSet, mSetO, mFor, mForD, mRet, mWhile, mPar, mParOE, mParEO, mParOO, mIfS, mDrop, mLc, mCons, mApp, mNext, mFreeze, mOr, mAnd, mIf, mNot, mB, mYes, entry, getV_v, getL_v, getL_o, onSq_l, onSq_t, onSq_s, onI_i, onIB_i, onIB_b, onB_b, onD_d, onOwn_o, onShow_d, onShowX_d, onDs, allD, gI_i, gAdd_i, gAdd_b, gSb_i, gSb_b, gMul_t, gAdd_l, gAdd_t, gAdd_s, gMul_i, gMul_l, gEq_d, gEqL, mgCons_c, mgTup_t, wipeE, List.set_cons_zero, List.set_cons_succ, List.getElem?_cons_zero, List.getElem?_cons_succ, List.map_cons, List.map_nil, List.length_cons, List.length_nil, List.replicate_succ, List.replicate_zero, List.cons_append, List.nil_append, Nat.reduceAdd, Nat.reduceSub, Nat.zero_add, Option.map_some, Option.map_none, decide_eq_true_eq, Nat.reduceLeDiff, true_and, if_true, Bool.false_eq_true, if_false, eqb_intT, eqb_strT, eqv_int, eqv_str, Bool.not_eq_true', decide_eq_false_iff_not, Bool.not_true, seqD, eqv_nil, eqv_nilT, ne_eq, reduceCtorEq, not_false_eq_true, nDivisor, nFraction, nDistances, nLPot, nLDraw, nLPick, nLCommon, nLFraction, nLLowest, nLShares, nLLook, nLLess, nLGaps, nLAsked, nLaw]
      refine ⟨4, rfl, by decide, by decide, fun st st0 st1 => ?_⟩
      simp only [mPut, gIx_0, gIx_1, gIx_2, allD_nil, allD_cons, mgUnl_l, mPar3, mAugI, mAugN, gRepO_l, gCatO_l, onFz_f, mExt, gIsB_b, mNewT, mPutT, mFreezeT, onDic_c, onTk_t, onTd_t, mLc2, gIsN_d, gIn, mAsg, mAndV, mOrV, gCh, Fd.isInt, Fd.isBl, Fd.isTup, Fd.isLst, Fd.isStr, enumD_len, mSeq, mSet, mSetO, mFor, mForD, mRet, mWhile, mPar, mParOE, mParEO, mParOO, mIfS, mDrop, mLc, mCons, mApp, mNext, mFreeze, mOr, mAnd, mIf, mNot, mB, mYes, entry, getV_v, getL_v, getL_o, onSq_l, onSq_t, onSq_s, onI_i, onIB_i, onIB_b, onB_b, onD_d, onOwn_o, onShow_d, onShowX_d, onDs, allD, gI_i, gAdd_i, gAdd_b, gSb_i, gSb_b, gMul_t, gAdd_l, gAdd_t, gAdd_s, gMul_i, gMul_l, gEq_d, gEqL, mgCons_c, mgTup_t, wipeE, List.set_cons_zero, List.set_cons_succ, List.getElem?_cons_zero, List.getElem?_cons_succ, List.map_cons, List.map_nil, List.length_cons, List.length_nil, List.replicate_succ, List.replicate_zero, List.cons_append, List.nil_append, Nat.reduceAdd, Nat.reduceSub, Nat.zero_add, Option.map_some, Option.map_none, decide_eq_true_eq, Nat.reduceLeDiff, true_and, if_true, Bool.false_eq_true, if_false, eqb_intT, eqb_strT, eqv_int, eqv_str, Bool.not_eq_true', decide_eq_false_iff_not, Bool.not_true, seqD, eqv_nil, eqv_nilT, ne_eq, reduceCtorEq, not_false_eq_true, nDivisor, nFraction, nDistances, nLPot, nLDraw, nLPick, nLCommon, nLFraction, nLLowest, nLShares, nLLook, nLLess, nLGaps, nLAsked, nLaw]
      refine ⟨6, rfl, by decide, by decide, fun n n0 n1 => ?_⟩
      simp only [mPut, gIx_0, gIx_1, gIx_2, allD_nil, allD_cons, mgUnl_l, mPar3, mAugI, mAugN, gRepO_l, gCatO_l, onFz_f, mExt, gIsB_b, mNewT, mPutT, mFreezeT, onDic_c, onTk_t, onTd_t, mLc2, gIsN_d, gIn, mAsg, mAndV, mOrV, gCh, Fd.isInt, Fd.isBl, Fd.isTup, Fd.isLst, Fd.isStr, enumD_len, mSeq, mSet, mSetO, mFor, mForD, mRet, mWhile, mPar, mParOE, mParEO, mParOO, mIfS, mDrop, mLc, mCons, mApp, mNext, mFreeze, mOr, mAnd, mIf, mNot, mB, mYes, entry, getV_v, getL_v, getL_o, onSq_l, onSq_t, onSq_s, onI_i, onIB_i, onIB_b, onB_b, onD_d, onOwn_o, onShow_d, onShowX_d, onDs, allD, gI_i, gAdd_i, gAdd_b, gSb_i, gSb_b, gMul_t, gAdd_l, gAdd_t, gAdd_s, gMul_i, gMul_l, gEq_d, gEqL, mgCons_c, mgTup_t, wipeE, List.set_cons_zero, List.set_cons_succ, List.getElem?_cons_zero, List.getElem?_cons_succ, List.map_cons, List.map_nil, List.length_cons, List.length_nil, List.replicate_succ, List.replicate_zero, List.cons_append, List.nil_append, Nat.reduceAdd, Nat.reduceSub, Nat.zero_add, Option.map_some, Option.map_none, decide_eq_true_eq, Nat.reduceLeDiff, true_and, if_true, Bool.false_eq_true, if_false, eqb_intT, eqb_strT, eqv_int, eqv_str, Bool.not_eq_true', decide_eq_false_iff_not, Bool.not_true, seqD, eqv_nil, eqv_nilT, ne_eq, reduceCtorEq, not_false_eq_true, nDivisor, nFraction, nDistances, nLPot, nLDraw, nLPick, nLCommon, nLFraction, nLLowest, nLShares, nLLook, nLLess, nLGaps, nLAsked, nLaw]
      obtain ⟨s, rfl⟩ := Int.eq_ofNat_of_zero_le st0
      obtain ⟨m, rfl⟩ := Int.eq_ofNat_of_zero_le n0
      have es : (1 + (s : Int)) = ((s + 1 : Nat) : Int) := by omega
      have em : (1 + (m : Int)) = ((m + 1 : Nat) : Int) := by omega
      rw [es, em]
      refine ⟨⟨by decide, by decide⟩, by decide, lcGo_gen (fun d => ∃ (w : Int) (A : List (List Int)), d = lookD w A ∧ Dl (s + 1) (m + 1) w A) _ (fun d hd R2 hR2 => ?_) fun ds hds hp => ?_⟩
      · simp only [mPut, gIx_0, gIx_1, gIx_2, allD_nil, allD_cons, mgUnl_l, mPar3, mAugI, mAugN, gRepO_l, gCatO_l, onFz_f, mExt, gIsB_b, mNewT, mPutT, mFreezeT, onDic_c, onTk_t, onTd_t, mLc2, gIsN_d, gIn, mAsg, mAndV, mOrV, gCh, Fd.isInt, Fd.isBl, Fd.isTup, Fd.isLst, Fd.isStr, enumD_len, mSeq, mSet, mSetO, mFor, mForD, mRet, mWhile, mPar, mParOE, mParEO, mParOO, mIfS, mDrop, mLc, mCons, mApp, mNext, mFreeze, mOr, mAnd, mIf, mNot, mB, mYes, entry, getV_v, getL_v, getL_o, onSq_l, onSq_t, onSq_s, onI_i, onIB_i, onIB_b, onB_b, onD_d, onOwn_o, onShow_d, onShowX_d, onDs, allD, gI_i, gAdd_i, gAdd_b, gSb_i, gSb_b, gMul_t, gAdd_l, gAdd_t, gAdd_s, gMul_i, gMul_l, gEq_d, gEqL, mgCons_c, mgTup_t, wipeE, List.set_cons_zero, List.set_cons_succ, List.getElem?_cons_zero, List.getElem?_cons_succ, List.map_cons, List.map_nil, List.length_cons, List.length_nil, List.replicate_succ, List.replicate_zero, List.cons_append, List.nil_append, Nat.reduceAdd, Nat.reduceSub, Nat.zero_add, Option.map_some, Option.map_none, decide_eq_true_eq, Nat.reduceLeDiff, true_and, if_true, Bool.false_eq_true, if_false, eqb_intT, eqb_strT, eqv_int, eqv_str, Bool.not_eq_true', decide_eq_false_iff_not, Bool.not_true, seqD, eqv_nil, eqv_nilT, ne_eq, reduceCtorEq, not_false_eq_true, nDivisor, nFraction, nDistances, nLPot, nLDraw, nLPick, nLCommon, nLFraction, nLLowest, nLShares, nLLook, nLLess, nLGaps, nLAsked, nLaw]
        exact ⟨_, _, rfl, by omega, by omega, by omega, by omega, fun w A w1 w6 lk => hR2 _ ⟨w, A, rfl, ⟨lk, w1, w6, by omega, by omega, by omega, by omega⟩⟩⟩
      · obtain ⟨a, b, c, rfl⟩ : ∃ a b c, ds = [a, b, c] := by
          have hl : ds.length = 3 := hds
          match ds, hl with
          | [a, b, c], _ => exact ⟨a, b, c, rfl⟩
        obtain ⟨w, A, rfl, dA⟩ := hp a (by simp)
        obtain ⟨v, B, rfl, dB⟩ := hp b (by simp)
        obtain ⟨u, C, rfl, dC⟩ := hp c (by simp)
        simp only [mPut, gIx_0, gIx_1, gIx_2, allD_nil, allD_cons, mgUnl_l, mPar3, mAugI, mAugN, gRepO_l, gCatO_l, onFz_f, mExt, gIsB_b, mNewT, mPutT, mFreezeT, onDic_c, onTk_t, onTd_t, mLc2, gIsN_d, gIn, mAsg, mAndV, mOrV, gCh, Fd.isInt, Fd.isBl, Fd.isTup, Fd.isLst, Fd.isStr, enumD_len, mSeq, mSet, mSetO, mFor, mForD, mRet, mWhile, mPar, mParOE, mParEO, mParOO, mIfS, mDrop, mLc, mCons, mApp, mNext, mFreeze, mOr, mAnd, mIf, mNot, mB, mYes, entry, getV_v, getL_v, getL_o, onSq_l, onSq_t, onSq_s, onI_i, onIB_i, onIB_b, onB_b, onD_d, onOwn_o, onShow_d, onShowX_d, onDs, allD, gI_i, gAdd_i, gAdd_b, gSb_i, gSb_b, gMul_t, gAdd_l, gAdd_t, gAdd_s, gMul_i, gMul_l, gEq_d, gEqL, mgCons_c, mgTup_t, wipeE, List.set_cons_zero, List.set_cons_succ, List.getElem?_cons_zero, List.getElem?_cons_succ, List.map_cons, List.map_nil, List.length_cons, List.length_nil, List.replicate_succ, List.replicate_zero, List.cons_append, List.nil_append, Nat.reduceAdd, Nat.reduceSub, Nat.zero_add, Option.map_some, Option.map_none, decide_eq_true_eq, Nat.reduceLeDiff, true_and, if_true, Bool.false_eq_true, if_false, eqb_intT, eqb_strT, eqv_int, eqv_str, Bool.not_eq_true', decide_eq_false_iff_not, Bool.not_true, seqD, eqv_nil, eqv_nilT, ne_eq, reduceCtorEq, not_false_eq_true, nDivisor, nFraction, nDistances, nLPot, nLDraw, nLPick, nLCommon, nLFraction, nLLowest, nLShares, nLLook, nLLess, nLGaps, nLAsked, nLaw]
        refine ⟨4, rfl, by decide, by decide, fun k k0 k1 => ?_⟩
        simp only [mPut, gIx_0, gIx_1, gIx_2, allD_nil, allD_cons, mgUnl_l, mPar3, mAugI, mAugN, gRepO_l, gCatO_l, onFz_f, mExt, gIsB_b, mNewT, mPutT, mFreezeT, onDic_c, onTk_t, onTd_t, mLc2, gIsN_d, gIn, mAsg, mAndV, mOrV, gCh, Fd.isInt, Fd.isBl, Fd.isTup, Fd.isLst, Fd.isStr, enumD_len, mSeq, mSet, mSetO, mFor, mForD, mRet, mWhile, mPar, mParOE, mParEO, mParOO, mIfS, mDrop, mLc, mCons, mApp, mNext, mFreeze, mOr, mAnd, mIf, mNot, mB, mYes, entry, getV_v, getL_v, getL_o, onSq_l, onSq_t, onSq_s, onI_i, onIB_i, onIB_b, onB_b, onD_d, onOwn_o, onShow_d, onShowX_d, onDs, allD, gI_i, gAdd_i, gAdd_b, gSb_i, gSb_b, gMul_t, gAdd_l, gAdd_t, gAdd_s, gMul_i, gMul_l, gEq_d, gEqL, mgCons_c, mgTup_t, wipeE, List.set_cons_zero, List.set_cons_succ, List.getElem?_cons_zero, List.getElem?_cons_succ, List.map_cons, List.map_nil, List.length_cons, List.length_nil, List.replicate_succ, List.replicate_zero, List.cons_append, List.nil_append, Nat.reduceAdd, Nat.reduceSub, Nat.zero_add, Option.map_some, Option.map_none, decide_eq_true_eq, Nat.reduceLeDiff, true_and, if_true, Bool.false_eq_true, if_false, eqb_intT, eqb_strT, eqv_int, eqv_str, Bool.not_eq_true', decide_eq_false_iff_not, Bool.not_true, seqD, eqv_nil, eqv_nilT, ne_eq, reduceCtorEq, not_false_eq_true, nDivisor, nFraction, nDistances, nLPot, nLDraw, nLPick, nLCommon, nLFraction, nLLowest, nLShares, nLLook, nLLess, nLGaps, nLAsked, nLaw]
        by_cases kz : k = 0
        · rw [if_pos kz]
          have w1 := dA.w1
          have w2 := dA.w2
          have la := lowW_le (R := A) w1
          have lA := dA.tab.len
          have tl := lowR_tab w1 dA.tab
          have n6 := dA.n6
          have s4 := dA.s4
          unfold lookD
          simp only [mPut, gIx_0, gIx_1, gIx_2, allD_nil, allD_cons, mgUnl_l, mPar3, mAugI, mAugN, gRepO_l, gCatO_l, onFz_f, mExt, gIsB_b, mNewT, mPutT, mFreezeT, onDic_c, onTk_t, onTd_t, mLc2, gIsN_d, gIn, mAsg, mAndV, mOrV, gCh, Fd.isInt, Fd.isBl, Fd.isTup, Fd.isLst, Fd.isStr, enumD_len, mSeq, mSet, mSetO, mFor, mForD, mRet, mWhile, mPar, mParOE, mParEO, mParOO, mIfS, mDrop, mLc, mCons, mApp, mNext, mFreeze, mOr, mAnd, mIf, mNot, mB, mYes, entry, getV_v, getL_v, getL_o, onSq_l, onSq_t, onSq_s, onI_i, onIB_i, onIB_b, onB_b, onD_d, onOwn_o, onShow_d, onShowX_d, onDs, allD, gI_i, gAdd_i, gAdd_b, gSb_i, gSb_b, gMul_t, gAdd_l, gAdd_t, gAdd_s, gMul_i, gMul_l, gEq_d, gEqL, mgCons_c, mgTup_t, wipeE, List.set_cons_zero, List.set_cons_succ, List.getElem?_cons_zero, List.getElem?_cons_succ, List.map_cons, List.map_nil, List.length_cons, List.length_nil, List.replicate_succ, List.replicate_zero, List.cons_append, List.nil_append, Nat.reduceAdd, Nat.reduceSub, Nat.zero_add, Option.map_some, Option.map_none, decide_eq_true_eq, Nat.reduceLeDiff, true_and, if_true, Bool.false_eq_true, if_false, eqb_intT, eqb_strT, eqv_int, eqv_str, Bool.not_eq_true', decide_eq_false_iff_not, Bool.not_true, seqD, eqv_nil, eqv_nilT, ne_eq, reduceCtorEq, not_false_eq_true, nDivisor, nFraction, nDistances, nLPot, nLDraw, nLPick, nLCommon, nLFraction, nLLowest, nLShares, nLLook, nLLess, nLGaps, nLAsked, nLaw]
          refine ⟨w, _, A, rfl, .inr rfl, w1, Int.le_trans w2 (by decide), by omega, fun r hr => ⟨by rw [dA.tab.row r hr]; omega, fun x hx => (dA.tab.ent r hr x hx).1⟩, ?_⟩
          unfold lowM lookD
          simp only [mPut, gIx_0, gIx_1, gIx_2, allD_nil, allD_cons, mgUnl_l, mPar3, mAugI, mAugN, gRepO_l, gCatO_l, onFz_f, mExt, gIsB_b, mNewT, mPutT, mFreezeT, onDic_c, onTk_t, onTd_t, mLc2, gIsN_d, gIn, mAsg, mAndV, mOrV, gCh, Fd.isInt, Fd.isBl, Fd.isTup, Fd.isLst, Fd.isStr, enumD_len, mSeq, mSet, mSetO, mFor, mForD, mRet, mWhile, mPar, mParOE, mParEO, mParOO, mIfS, mDrop, mLc, mCons, mApp, mNext, mFreeze, mOr, mAnd, mIf, mNot, mB, mYes, entry, getV_v, getL_v, getL_o, onSq_l, onSq_t, onSq_s, onI_i, onIB_i, onIB_b, onB_b, onD_d, onOwn_o, onShow_d, onShowX_d, onDs, allD, gI_i, gAdd_i, gAdd_b, gSb_i, gSb_b, gMul_t, gAdd_l, gAdd_t, gAdd_s, gMul_i, gMul_l, gEq_d, gEqL, mgCons_c, mgTup_t, wipeE, List.set_cons_zero, List.set_cons_succ, List.getElem?_cons_zero, List.getElem?_cons_succ, List.map_cons, List.map_nil, List.length_cons, List.length_nil, List.replicate_succ, List.replicate_zero, List.cons_append, List.nil_append, Nat.reduceAdd, Nat.reduceSub, Nat.zero_add, Option.map_some, Option.map_none, decide_eq_true_eq, Nat.reduceLeDiff, true_and, if_true, Bool.false_eq_true, if_false, eqb_intT, eqb_strT, eqv_int, eqv_str, Bool.not_eq_true', decide_eq_false_iff_not, Bool.not_true, seqD, eqv_nil, eqv_nilT, ne_eq, reduceCtorEq, not_false_eq_true, nDivisor, nFraction, nDistances, nLPot, nLDraw, nLPick, nLCommon, nLFraction, nLLowest, nLShares, nLLook, nLLess, nLGaps, nLAsked, nLaw]
          have dv : lowW w A * (60 / lowW w A) ≤ 60 := Int.mul_ediv_self_le (by omega)
          have d1 : 1 ≤ 60 / lowW w A := (Int.le_ediv_iff_mul_le (by omega)).mpr (by omega)
          have d2 : 60 / lowW w A ≤ 60 := Int.ediv_le_self _ (by decide)
          refine ⟨cdvW (by omega) (Int.le_trans la.2 (Int.le_trans w2 (by decide))), _, rfl, d1, by omega, fun t t0 t1 => ?_⟩
          simp only [mPut, gIx_0, gIx_1, gIx_2, allD_nil, allD_cons, mgUnl_l, mPar3, mAugI, mAugN, gRepO_l, gCatO_l, onFz_f, mExt, gIsB_b, mNewT, mPutT, mFreezeT, onDic_c, onTk_t, onTd_t, mLc2, gIsN_d, gIn, mAsg, mAndV, mOrV, gCh, Fd.isInt, Fd.isBl, Fd.isTup, Fd.isLst, Fd.isStr, enumD_len, mSeq, mSet, mSetO, mFor, mForD, mRet, mWhile, mPar, mParOE, mParEO, mParOO, mIfS, mDrop, mLc, mCons, mApp, mNext, mFreeze, mOr, mAnd, mIf, mNot, mB, mYes, entry, getV_v, getL_v, getL_o, onSq_l, onSq_t, onSq_s, onI_i, onIB_i, onIB_b, onB_b, onD_d, onOwn_o, onShow_d, onShowX_d, onDs, allD, gI_i, gAdd_i, gAdd_b, gSb_i, gSb_b, gMul_t, gAdd_l, gAdd_t, gAdd_s, gMul_i, gMul_l, gEq_d, gEqL, mgCons_c, mgTup_t, wipeE, List.set_cons_zero, List.set_cons_succ, List.getElem?_cons_zero, List.getElem?_cons_succ, List.map_cons, List.map_nil, List.length_cons, List.length_nil, List.replicate_succ, List.replicate_zero, List.cons_append, List.nil_append, Nat.reduceAdd, Nat.reduceSub, Nat.zero_add, Option.map_some, Option.map_none, decide_eq_true_eq, Nat.reduceLeDiff, true_and, if_true, Bool.false_eq_true, if_false, eqb_intT, eqb_strT, eqv_int, eqv_str, Bool.not_eq_true', decide_eq_false_iff_not, Bool.not_true, seqD, eqv_nil, eqv_nilT, ne_eq, reduceCtorEq, not_false_eq_true, nDivisor, nFraction, nDistances, nLPot, nLDraw, nLPick, nLCommon, nLFraction, nLLowest, nLShares, nLLook, nLLess, nLGaps, nLAsked, nLaw]
          have tm : lowW w A * (1 + t) ≤ lowW w A * (60 / lowW w A) := Int.mul_le_mul_of_nonneg_left (by omega) (by omega)
          have lk := low_look (t := 1 + t) w1 (by omega) dA.lk
          have tp : 1 ≤ lowW w A * (1 + t) := Int.le_trans (by decide) (Int.mul_le_mul la.1 (show (1 : Int) ≤ 1 + t by omega) (by decide) (by omega))
          refine ⟨cml (by omega) (by omega), by rw [rowsD_len, tl.len]; omega, lcGo_fun (fun r : List Int => PyData.tuple (r.map .int)) (fun r : List Int => PyData.tuple ((r.map (· * (1 + t))).map .int)) (lowR w A) [] (fun r hr R2 hR2 => ?_) ?_⟩
          · simp only [mPut, gIx_0, gIx_1, gIx_2, allD_nil, allD_cons, mgUnl_l, mPar3, mAugI, mAugN, gRepO_l, gCatO_l, onFz_f, mExt, gIsB_b, mNewT, mPutT, mFreezeT, onDic_c, onTk_t, onTd_t, mLc2, gIsN_d, gIn, mAsg, mAndV, mOrV, gCh, Fd.isInt, Fd.isBl, Fd.isTup, Fd.isLst, Fd.isStr, enumD_len, mSeq, mSet, mSetO, mFor, mForD, mRet, mWhile, mPar, mParOE, mParEO, mParOO, mIfS, mDrop, mLc, mCons, mApp, mNext, mFreeze, mOr, mAnd, mIf, mNot, mB, mYes, entry, getV_v, getL_v, getL_o, onSq_l, onSq_t, onSq_s, onI_i, onIB_i, onIB_b, onB_b, onD_d, onOwn_o, onShow_d, onShowX_d, onDs, allD, gI_i, gAdd_i, gAdd_b, gSb_i, gSb_b, gMul_t, gAdd_l, gAdd_t, gAdd_s, gMul_i, gMul_l, gEq_d, gEqL, mgCons_c, mgTup_t, wipeE, List.set_cons_zero, List.set_cons_succ, List.getElem?_cons_zero, List.getElem?_cons_succ, List.map_cons, List.map_nil, List.length_cons, List.length_nil, List.replicate_succ, List.replicate_zero, List.cons_append, List.nil_append, Nat.reduceAdd, Nat.reduceSub, Nat.zero_add, Option.map_some, Option.map_none, decide_eq_true_eq, Nat.reduceLeDiff, true_and, if_true, Bool.false_eq_true, if_false, eqb_intT, eqb_strT, eqv_int, eqv_str, Bool.not_eq_true', decide_eq_false_iff_not, Bool.not_true, seqD, eqv_nil, eqv_nilT, ne_eq, reduceCtorEq, not_false_eq_true, nDivisor, nFraction, nDistances, nLPot, nLDraw, nLPick, nLCommon, nLFraction, nLLowest, nLShares, nLLook, nLLess, nLGaps, nLAsked, nLaw]
            have rl := tl.row r hr
            refine ⟨by rw [List.length_map, rl]; omega, lcGo_ints (fun x => .int (x * (1 + t))) r [] (fun x hx R3 hR3 => ?_) ?_⟩
            · have := tl.ent r hr x hx
              simp only [mPut, gIx_0, gIx_1, gIx_2, allD_nil, allD_cons, mgUnl_l, mPar3, mAugI, mAugN, gRepO_l, gCatO_l, onFz_f, mExt, gIsB_b, mNewT, mPutT, mFreezeT, onDic_c, onTk_t, onTd_t, mLc2, gIsN_d, gIn, mAsg, mAndV, mOrV, gCh, Fd.isInt, Fd.isBl, Fd.isTup, Fd.isLst, Fd.isStr, enumD_len, mSeq, mSet, mSetO, mFor, mForD, mRet, mWhile, mPar, mParOE, mParEO, mParOO, mIfS, mDrop, mLc, mCons, mApp, mNext, mFreeze, mOr, mAnd, mIf, mNot, mB, mYes, entry, getV_v, getL_v, getL_o, onSq_l, onSq_t, onSq_s, onI_i, onIB_i, onIB_b, onB_b, onD_d, onOwn_o, onShow_d, onShowX_d, onDs, allD, gI_i, gAdd_i, gAdd_b, gSb_i, gSb_b, gMul_t, gAdd_l, gAdd_t, gAdd_s, gMul_i, gMul_l, gEq_d, gEqL, mgCons_c, mgTup_t, wipeE, List.set_cons_zero, List.set_cons_succ, List.getElem?_cons_zero, List.getElem?_cons_succ, List.map_cons, List.map_nil, List.length_cons, List.length_nil, List.replicate_succ, List.replicate_zero, List.cons_append, List.nil_append, Nat.reduceAdd, Nat.reduceSub, Nat.zero_add, Option.map_some, Option.map_none, decide_eq_true_eq, Nat.reduceLeDiff, true_and, if_true, Bool.false_eq_true, if_false, eqb_intT, eqb_strT, eqv_int, eqv_str, Bool.not_eq_true', decide_eq_false_iff_not, Bool.not_true, seqD, eqv_nil, eqv_nilT, ne_eq, reduceCtorEq, not_false_eq_true, nDivisor, nFraction, nDistances, nLPot, nLDraw, nLPick, nLCommon, nLFraction, nLLowest, nLShares, nLLook, nLLess, nLGaps, nLAsked, nLaw]
              exact ⟨cml (by omega) (by omega), hR3⟩
            · rw [List.nil_append]
              rw [List.map_map] at hR2
              exact hR2
          · rw [List.nil_append]
            have e9 : (lowR w A).map (fun r : List Int => PyData.tuple ((r.map (· * (1 + t))).map .int)) = rowsD (scaleM (1 + t) (lowR w A)) := by
              unfold rowsD scaleM
              rw [List.map_map]
              rfl
            rw [e9]
            exact hT _ ⟨s + 1, m + 1, w, A, _, _, u, C, dA, ⟨lk, tp, by omega, by omega, by omega, by omega, by omega⟩, dC, _, _, _, _, _, _, _, _, _, _, _, _, _, _, _, _, rfl⟩
        · rw [if_neg kz]
          exact hT _ ⟨s + 1, m + 1, w, A, v, B, u, C, dA, dB, dC, _, _, _, _, _, _, _, _, _, _, _, _, _, _, _, _, rfl⟩

end

/-! what the top has written -/
theorem all_mk {l : PySem.W.OpenLaw} {w : World} {K : PySem.W.Frag} {h : Heap} {mg : Str → Option Value} {fa f1 f2 f3 f4 f5 f6 f7 f8 f9 f10 f11 f12 f13 f14 f15 : Addr} (X : K.In h) (G : h.Ns mainGlobals mg) (hfa : mg "law" = some (.ref fa))
    {od1 an1 : Option Addr} {sl1 : Array (Option Value)} {oc1 kV1 dc1 pm1 cd1 ct1 : Value}
    {od2 an2 : Option Addr} {sl2 : Array (Option Value)} {oc2 kV2 dc2 pm2 cd2 ct2 : Value}
    {od3 an3 : Option Addr} {sl3 : Array (Option Value)} {oc3 kV3 dc3 pm3 cd3 ct3 : Value}
    {od4 an4 : Option Addr} {sl4 : Array (Option Value)} {oc4 kV4 dc4 pm4 cd4 ct4 : Value}
    {od5 an5 : Option Addr} {sl5 : Array (Option Value)} {oc5 kV5 dc5 pm5 cd5 ct5 : Value}
    {od6 an6 : Option Addr} {sl6 : Array (Option Value)} {oc6 kV6 dc6 pm6 cd6 ct6 : Value}
    {od7 an7 : Option Addr} {sl7 : Array (Option Value)} {oc7 kV7 dc7 pm7 cd7 ct7 : Value}
    {od8 an8 : Option Addr} {sl8 : Array (Option Value)} {oc8 kV8 dc8 pm8 cd8 ct8 : Value}
    {od9 an9 : Option Addr} {sl9 : Array (Option Value)} {oc9 kV9 dc9 pm9 cd9 ct9 : Value}
    {od10 an10 : Option Addr} {sl10 : Array (Option Value)} {oc10 kV10 dc10 pm10 cd10 ct10 : Value}
    {od11 an11 : Option Addr} {sl11 : Array (Option Value)} {oc11 kV11 dc11 pm11 cd11 ct11 : Value}
    {od12 an12 : Option Addr} {sl12 : Array (Option Value)} {oc12 kV12 dc12 pm12 cd12 ct12 : Value}
    {od13 an13 : Option Addr} {sl13 : Array (Option Value)} {oc13 kV13 dc13 pm13 cd13 ct13 : Value}
    {od14 an14 : Option Addr} {sl14 : Array (Option Value)} {oc14 kV14 dc14 pm14 cd14 ct14 : Value}
    {od15 an15 : Option Addr} {sl15 : Array (Option Value)} {oc15 kV15 dc15 pm15 cd15 ct15 : Value}
    {xC1 xI1 xB1 xN1 xD1 xQ1 : Addr} {xp1 xq1 xr1 xs1 xF1 : Str} {xu1 xv1 : List Value} {sn1 : List Str} {ab1 : Bool} {co1 : Option Bool} {dd1 : Option Addr} {m01 m11 m21 m31 m51 : Option Value} {kVx1 dcx1 pmx1 ctx1 ocx1 : Value} {anx1 odx1 : Option Addr} {osl1 : Array (Option Value)} {clA1 clB1 : Value} {cdA1 cdB1 : Option Addr} {vsA1 : Array Value} {slA1 slB1 : Array (Option Value)} {tf1 : Tok} {ypA1 yqA1 : Str} {yNA1 : Addr} {yuA1 yvA1 : List Value} {ynA1 : List Str} {yaA1 : Bool} {ycA1 : Option Bool} {ydA1 : Option Addr} {yk0A1 yk1A1 yk2A1 yk3A1 yk5A1 : Option Value}
    (a1 : PySem.W.nsIn K mainGlobals "divisor" = some (some (.ref f1)))
    (l1 : K.lookup f1 = some ⟨oc1, od1, .func (PySem.W.fnOf "divisor" "divisor" (defArgs sDivisor) (defBody sDivisor) (defScope sDivisor) .none kV1 dc1 pm1 an1 cd1 ct1), sl1⟩)
    (c1 : PySem.W.codeIn K cd1 "divisor" = true) (k1 : PySem.W.keepIn K (.ref f1) = true)
    (a2 : PySem.W.nsIn K mainGlobals "fraction" = some (some (.ref f2)))
    (l2 : K.lookup f2 = some ⟨oc2, od2, .func (PySem.W.fnOf "fraction" "fraction" (defArgs sFraction) (defBody sFraction) (defScope sFraction) .none kV2 dc2 pm2 an2 cd2 ct2), sl2⟩)
    (c2 : PySem.W.codeIn K cd2 "fraction" = true) (k2 : PySem.W.keepIn K (.ref f2) = true)
    (a3 : PySem.W.nsIn K mainGlobals "distances" = some (some (.ref f3)))
    (l3 : K.lookup f3 = some ⟨oc3, od3, .func (PySem.W.fnOf "distances" "distances" (defArgs sDistances) (defBody sDistances) (defScope sDistances) .none kV3 dc3 pm3 an3 cd3 ct3), sl3⟩)
    (c3 : PySem.W.codeIn K cd3 "distances" = true) (k3 : PySem.W.keepIn K (.ref f3) = true)
    (a4 : PySem.W.nsIn K mainGlobals "_law_pot" = some (some (.ref f4)))
    (l4 : K.lookup f4 = some ⟨oc4, od4, .func (PySem.W.fnOf "_law_pot" "_law_pot" (defArgs sLPot) (defBody sLPot) (defScope sLPot) .none kV4 dc4 pm4 an4 cd4 ct4), sl4⟩)
    (c4 : PySem.W.codeIn K cd4 "_law_pot" = true) (k4 : PySem.W.keepIn K (.ref f4) = true)
    (a5 : PySem.W.nsIn K mainGlobals "_law_draw" = some (some (.ref f5)))
    (l5 : K.lookup f5 = some ⟨oc5, od5, .func (PySem.W.fnOf "_law_draw" "_law_draw" (defArgs sLDraw) (defBody sLDraw) (defScope sLDraw) .none kV5 dc5 pm5 an5 cd5 ct5), sl5⟩)
    (c5 : PySem.W.codeIn K cd5 "_law_draw" = true) (k5 : PySem.W.keepIn K (.ref f5) = true)
    (a6 : PySem.W.nsIn K mainGlobals "_law_pick" = some (some (.ref f6)))
    (l6 : K.lookup f6 = some ⟨oc6, od6, .func (PySem.W.fnOf "_law_pick" "_law_pick" (defArgs sLPick) (defBody sLPick) (defScope sLPick) .none kV6 dc6 pm6 an6 cd6 ct6), sl6⟩)
    (c6 : PySem.W.codeIn K cd6 "_law_pick" = true) (k6 : PySem.W.keepIn K (.ref f6) = true)
    (a7 : PySem.W.nsIn K mainGlobals "_law_common" = some (some (.ref f7)))
    (l7 : K.lookup f7 = some ⟨oc7, od7, .func (PySem.W.fnOf "_law_common" "_law_common" (defArgs sLCommon) (defBody sLCommon) (defScope sLCommon) .none kV7 dc7 pm7 an7 cd7 ct7), sl7⟩)
    (c7 : PySem.W.codeIn K cd7 "_law_common" = true) (k7 : PySem.W.keepIn K (.ref f7) = true)
    (a8 : PySem.W.nsIn K mainGlobals "_law_fraction" = some (some (.ref f8)))
    (l8 : K.lookup f8 = some ⟨oc8, od8, .func (PySem.W.fnOf "_law_fraction" "_law_fraction" (defArgs sLFraction) (defBody sLFraction) (defScope sLFraction) .none kV8 dc8 pm8 an8 cd8 ct8), sl8⟩)
    (c8 : PySem.W.codeIn K cd8 "_law_fraction" = true) (k8 : PySem.W.keepIn K (.ref f8) = true)
    (a9 : PySem.W.nsIn K mainGlobals "_law_lowest" = some (some (.ref f9)))
    (l9 : K.lookup f9 = some ⟨oc9, od9, .func (PySem.W.fnOf "_law_lowest" "_law_lowest" (defArgs sLLowest) (defBody sLLowest) (defScope sLLowest) .none kV9 dc9 pm9 an9 cd9 ct9), sl9⟩)
    (c9 : PySem.W.codeIn K cd9 "_law_lowest" = true) (k9 : PySem.W.keepIn K (.ref f9) = true)
    (a10 : PySem.W.nsIn K mainGlobals "_law_shares" = some (some (.ref f10)))
    (l10 : K.lookup f10 = some ⟨oc10, od10, .func (PySem.W.fnOf "_law_shares" "_law_shares" (defArgs sLShares) (defBody sLShares) (defScope sLShares) .none kV10 dc10 pm10 an10 cd10 ct10), sl10⟩)
    (c10 : PySem.W.codeIn K cd10 "_law_shares" = true) (k10 : PySem.W.keepIn K (.ref f10) = true)
    (a11 : PySem.W.nsIn K mainGlobals "_law_look" = some (some (.ref f11)))
    (l11 : K.lookup f11 = some ⟨oc11, od11, .func (PySem.W.fnOf "_law_look" "_law_look" (defArgs sLLook) (defBody sLLook) (defScope sLLook) .none kV11 dc11 pm11 an11 cd11 ct11), sl11⟩)
    (c11 : PySem.W.codeIn K cd11 "_law_look" = true) (k11 : PySem.W.keepIn K (.ref f11) = true)
    (a12 : PySem.W.nsIn K mainGlobals "_law_less" = some (some (.ref f12)))
    (l12 : K.lookup f12 = some ⟨oc12, od12, .func (PySem.W.fnOf "_law_less" "_law_less" (defArgs sLLess) (defBody sLLess) (defScope sLLess) .none kV12 dc12 pm12 an12 cd12 ct12), sl12⟩)
    (c12 : PySem.W.codeIn K cd12 "_law_less" = true) (k12 : PySem.W.keepIn K (.ref f12) = true)
    (a13 : PySem.W.nsIn K mainGlobals "_law_gaps" = some (some (.ref f13)))
    (l13 : K.lookup f13 = some ⟨oc13, od13, .func (PySem.W.fnOf "_law_gaps" "_law_gaps" (defArgs sLGaps) (defBody sLGaps) (defScope sLGaps) .none kV13 dc13 pm13 an13 cd13 ct13), sl13⟩)
    (c13 : PySem.W.codeIn K cd13 "_law_gaps" = true) (k13 : PySem.W.keepIn K (.ref f13) = true)
    (a14 : PySem.W.nsIn K mainGlobals "_law_asked" = some (some (.ref f14)))
    (l14 : K.lookup f14 = some ⟨oc14, od14, .func (PySem.W.fnOf "_law_asked" "_law_asked" (defArgs sLAsked) (defBody sLAsked) (defScope sLAsked) .none kV14 dc14 pm14 an14 cd14 ct14), sl14⟩)
    (c14 : PySem.W.codeIn K cd14 "_law_asked" = true) (k14 : PySem.W.keepIn K (.ref f14) = true)
    (a15 : PySem.W.nsIn K mainGlobals "law" = some (some (.ref f15)))
    (l15 : K.lookup f15 = some ⟨oc15, od15, .func (PySem.W.fnOf "law" "law" (defArgs sLaw) (defBody sLaw) (defScope sLaw) .none kV15 dc15 pm15 an15 cd15 ct15), sl15⟩)
    (c15 : PySem.W.codeIn K cd15 "law" = true) (k15 : PySem.W.keepIn K (.ref f15) = true)
    (xa1 : PySem.W.nsIn K mainGlobals "Unfit" = some (some (.ref xC1))) (xb1 : PySem.W.nsIn K mainGlobals "LookError" = some (some (.ref xB1)))
    (xl1 : K.lookup xC1 = some (excClassObj xp1 xq1 xC1 xN1 xu1 [.ref xB1, .type "ValueError", .type "Exception", .type "BaseException", .type "object"] true sn1 xv1 ab1 co1 dd1 m01 m11 m21 m31 m51 "ValueError.__new__"))
    (xm1 : PySem.W.findIn K (.ref xB1) "__init__" = some (some (.builtin "ValueError.__init__"))) (xU1 : K.lookup xB1 = some (excClassObj ypA1 yqA1 xB1 yNA1 yuA1 [.type "ValueError", .type "Exception", .type "BaseException", .type "object"] true ynA1 yvA1 yaA1 ycA1 ydA1 yk0A1 yk1A1 yk2A1 yk3A1 yk5A1 "ValueError.__new__")) (xo1 : PySem.W.nsIn K cStatics "thirdparty.any" = some none)
    (xi1 : PySem.W.findIn K (.ref xC1) "__init__" = some (some (.ref xI1)))
    (xf1 : K.lookup xI1 = some ⟨ocx1, odx1, .func (PySem.W.ksFn xr1 xs1 aUnfit bUnfit (Fe.scI zUnfit) .none kVx1 dcx1 pmx1 anx1 (.ref xD1) ctx1 xQ1), osl1⟩) (xg1 : PySem.W.codeIn K (.ref xD1) xs1 = true)
    (xc1 : K.lookup xD1 = some ⟨clA1, cdA1, .fields vsA1, slA1⟩) (xd1 : vsA1[2]? = some (.str xF1 tf1)) (xe1 : ((l.prog.main.file : Str) == xF1) = true)
    (xh1 : K.lookup xQ1 = some ⟨clB1, cdB1, .cell (some (.ref xC1)), slB1⟩) (xz1 : PySem.W.nsIn K mainGlobals "super" = some none) (xt1 : (l.prog.main.scope.names.lookup ("super" : Str)).isSome = false)
    (xj1 : PySem.W.typeIn K (.ref xI1) = some (.type "function")) (xk1 : PySem.W.keepIn K (.ref xC1) = true) (xA1 : PySem.W.findIn K (.ref xC1) "__setattr__" = some (some (.builtin "object.__setattr__"))) (xE1 : PySem.W.subIn K (.ref xC1) (.type "BaseException") = some true) (xT1 : PySem.W.typeIn K (.ref xC1) = some (.type "type"))
    (xO1 : PySem.W.findIn K (.ref xC1) "nothing" = some none) (xG1 : PySem.W.findIn K (.ref xC1) "__getattribute__" = some (some (.builtin "BaseException.__getattribute__"))) (xH1 : PySem.W.findIn K (.ref xC1) "__getattr__" = some none) (xJ1 : PySem.W.hasDictIn K xC1 = true)
    (xK1 : PySem.W.findIn K (.ref xC1) "__class__" = some (some (.builtin "object.__class__"))) (xL1 : PySem.W.specialIn K (.builtin "object.__class__") "__get__" = some (some (.builtin "getset_descriptor.__get__"))) (xM1 : PySem.W.takesIn K (.builtin "object.__class__") = some true) (xP1 : PySem.W.mroIn K xC1 (.type "object") = some true)
    (xR1 : PySem.W.subIn K (.ref xC1) (.ref xC1) = some true) (xS1 : PySem.W.kitOne K (.ref xC1) (.ref xB1) = some true)
    (z1 : PySem.W.nsIn K mainGlobals "abs" = some none) (z2 : PySem.W.nsIn K mainGlobals "int" = some none) (z3 : PySem.W.nsIn K mainGlobals "isinstance" = some none) (z4 : PySem.W.nsIn K mainGlobals "len" = some none) (z5 : PySem.W.nsIn K mainGlobals "range" = some none) (z6 : PySem.W.nsIn K mainGlobals "repr" = some none) (z7 : PySem.W.nsIn K mainGlobals "sorted" = some none) (z8 : PySem.W.nsIn K mainGlobals "sum" = some none) (z9 : PySem.W.nsIn K mainGlobals "tuple" = some none) (z10 : PySem.W.nsIn K mainGlobals "zip" = some none)
    : ∃ fd : FuncData, (∀ (s : Shared) (v : Value), BindsTo s fd ⟨[v], []⟩ [("script", v)]) ∧ ∀ base : Heap, K.In base → base.Ns mainGlobals mg → (∃ o, base.get? sysModules = some o) → FnG l.prog w K mg base 5 fa fd ["script"] (spLaw K) := by
  have e := hfa.symm.trans (PySem.W.mg_of X G a15)
  cases e
  have F1 := fun_mk (st := sDivisor) l1 c1 k1
  have F2 := fun_mk (st := sFraction) l2 c2 k2
  have F3 := fun_mk (st := sDistances) l3 c3 k3
  have F4 := fun_mk (st := sLPot) l4 c4 k4
  have F5 := fun_mk (st := sLDraw) l5 c5 k5
  have F6 := fun_mk (st := sLPick) l6 c6 k6
  have F7 := fun_mk (st := sLCommon) l7 c7 k7
  have F8 := fun_mk (st := sLFraction) l8 c8 k8
  have F9 := fun_mk (st := sLLowest) l9 c9 k9
  have F10 := fun_mk (st := sLShares) l10 c10 k10
  have F11 := fun_mk (st := sLLook) l11 c11 k11
  have F12 := fun_mk (st := sLLess) l12 c12 k12
  have F13 := fun_mk (st := sLGaps) l13 c13 k13
  have F14 := fun_mk (st := sLAsked) l14 c14 k14
  have F15 := fun_mk (st := sLaw) l15 c15 k15
  have T : Glb mg := ⟨PySem.W.mg_none_of X G z1, PySem.W.mg_none_of X G z2, PySem.W.mg_none_of X G z3, PySem.W.mg_none_of X G z4, PySem.W.mg_none_of X G z5, PySem.W.mg_none_of X G z6, PySem.W.mg_none_of X G z7, PySem.W.mg_none_of X G z8, PySem.W.mg_none_of X G z9, PySem.W.mg_none_of X G z10⟩
  refine ⟨PySem.W.fnOf "law" "law" (defArgs sLaw) (defBody sLaw) (defScope sLaw) .none kV15 dc15 pm15 an15 cd15 ct15, fun s v => .of_eq rfl, fun base _ _ SM => ?_⟩
  have e_Unfit : ExT l.prog K mg "Unfit" "LookError" "nothing" aUnfit bUnfit zUnfit xC1 xI1 xB1 := ext_mk X G xa1 xb1 xl1 (along_of xU1 xm1) xo1 xf1 xg1 xc1 xd1 xe1 xh1 xz1 xt1 xi1 xj1 xk1 xA1 xE1 xT1 xO1 xG1 xH1 xJ1 xK1 xL1 xM1 xP1 xR1 xS1
  have C_divisor := cal_divisor (P := l.prog) (w := w) (base := base) F1 (PySem.W.mg_of X G a1) (ok_divisor F1 T)
  have C__law_pot := cal__law_pot (P := l.prog) (w := w) (base := base) F4 (PySem.W.mg_of X G a4) (ok__law_pot F4 T)
  have C__law_draw := cal__law_draw (P := l.prog) (w := w) (base := base) F5 (PySem.W.mg_of X G a5) (ok__law_draw F5 T)
  have C__law_common := cal__law_common (P := l.prog) (w := w) (base := base) F7 (PySem.W.mg_of X G a7) (ok__law_common F7 T)
  have C__law_less := cal__law_less (P := l.prog) (w := w) (base := base) F12 (PySem.W.mg_of X G a12) (ok__law_less F12 T)
  have C_fraction := cal_fraction (P := l.prog) (w := w) (base := base) F2 (PySem.W.mg_of X G a2) (ok_fraction F2 T C_divisor)
  have C__law_pick := cal__law_pick (P := l.prog) (w := w) (base := base) F6 (PySem.W.mg_of X G a6) (ok__law_pick F6 T C__law_draw)
  have C__law_fraction := cal__law_fraction (P := l.prog) (w := w) (base := base) F8 (PySem.W.mg_of X G a8) (ok__law_fraction F8 T C__law_common)
  have C__law_lowest := cal__law_lowest (P := l.prog) (w := w) (base := base) F9 (PySem.W.mg_of X G a9) (ok__law_lowest F9 T C__law_common)
  have C_distances := cal_distances (P := l.prog) (w := w) (base := base) F3 (PySem.W.mg_of X G a3) (ok_distances F3 T e_Unfit C_fraction)
  have C__law_shares := cal__law_shares (P := l.prog) (w := w) (base := base) F10 (PySem.W.mg_of X G a10) (ok__law_shares F10 T C__law_draw C__law_pick)
  have C__law_gaps := cal__law_gaps (P := l.prog) (w := w) (base := base) F13 (PySem.W.mg_of X G a13) (ok__law_gaps F13 T C__law_fraction)
  have C__law_look := cal__law_look (P := l.prog) (w := w) (base := base) F11 (PySem.W.mg_of X G a11) (ok__law_look F11 T C__law_draw C__law_pick C__law_shares)
  have C__law_asked := cal__law_asked (P := l.prog) (w := w) (base := base) F14 (PySem.W.mg_of X G a14) (ok__law_asked F14 T e_Unfit C_distances)
  exact ok_law F15 T SM C_distances C__law_asked C__law_draw C__law_fraction C__law_gaps C__law_less C__law_look C__law_lowest C__law_pot
end K18
open PySem PySem.W PyProof.Rows
set_option maxHeartbeats 0 in
theorem PySem.Challenge.cw_foralldeciders_k18_whole_distances_holds : PySem.Challenge.rw_foralldeciders_k18_whole_distances.Holds := by
  w_on; o_law; k_head; (case hw => w_witness2)
  k_fill
  refine Fd.walkG (l := PySem.Challenge.rw_foralldeciders_k18_whole_distances) (n := 63) (k := 5) (x := "script") (sp := Fd.spLaw) (by rfl) rfl (by decide) rfl ⟨rfl, by decide, by decide⟩ (fun w h Y => PySem.W.kIn_of Y) ?F (fun K H a ns hl hO hS => ⟨a, ns, rfl, hO, hS, hl, fun _ => rfl⟩)
  case F =>
    intro w mg fa h KX G hmg
    refine' K18.all_mk KX G hmg ?a1 ?l1 ?c1 ?k1 ?a2 ?l2 ?c2 ?k2 ?a3 ?l3 ?c3 ?k3 ?a4 ?l4 ?c4 ?k4 ?a5 ?l5 ?c5 ?k5 ?a6 ?l6 ?c6 ?k6 ?a7 ?l7 ?c7 ?k7 ?a8 ?l8 ?c8 ?k8 ?a9 ?l9 ?c9 ?k9 ?a10 ?l10 ?c10 ?k10 ?a11 ?l11 ?c11 ?k11 ?a12 ?l12 ?c12 ?k12 ?a13 ?l13 ?c13 ?k13 ?a14 ?l14 ?c14 ?k14 ?a15 ?l15 ?c15 ?k15 ?xa1 ?xb1 ?xU1 ?xl1 ?xm1 ?xo1 ?xi1 ?xf1 ?xg1 ?xc1 ?xd1 ?xe1 ?xh1 ?xz1 ?xt1 ?xj1 ?xk1 ?xA1 ?xE1 ?xT1 ?xO1 ?xG1 ?xH1 ?xJ1 ?xK1 ?xL1 ?xM1 ?xP1 ?xR1 ?xS1 ?z1 ?z2 ?z3 ?z4 ?z5 ?z6 ?z7 ?z8 ?z9 ?z10
    (case a1 => k_is); (case l1 => k_is); (case c1 => k_is); (case k1 => k_is); (case a2 => k_is); (case l2 => k_is); (case c2 => k_is); (case k2 => k_is)
    (case a3 => k_is); (case l3 => k_is); (case c3 => k_is); (case k3 => k_is); (case a4 => k_is); (case l4 => k_is); (case c4 => k_is); (case k4 => k_is)
    (case a5 => k_is); (case l5 => k_is); (case c5 => k_is); (case k5 => k_is); (case a6 => k_is); (case l6 => k_is); (case c6 => k_is); (case k6 => k_is)
    (case a7 => k_is); (case l7 => k_is); (case c7 => k_is); (case k7 => k_is); (case a8 => k_is); (case l8 => k_is); (case c8 => k_is); (case k8 => k_is)
    (case a9 => k_is); (case l9 => k_is); (case c9 => k_is); (case k9 => k_is); (case a10 => k_is); (case l10 => k_is); (case c10 => k_is); (case k10 => k_is)
    (case a11 => k_is); (case l11 => k_is); (case c11 => k_is); (case k11 => k_is); (case a12 => k_is); (case l12 => k_is); (case c12 => k_is); (case k12 => k_is)
    (case a13 => k_is); (case l13 => k_is); (case c13 => k_is); (case k13 => k_is); (case a14 => k_is); (case l14 => k_is); (case c14 => k_is); (case k14 => k_is)
    (case a15 => k_is); (case l15 => k_is); (case c15 => k_is); (case k15 => k_is); (case xa1 => k_is); (case xb1 => k_is); (case xU1 => k_is); (case xl1 => k_is)
    (case xm1 => k_is); (case xo1 => k_is); (case xi1 => k_is); (case xf1 => k_is); (case xg1 => k_is); (case xc1 => k_is); (case xd1 => first | rfl | (exact rfl) | decide +kernel | k_is); (case xe1 => first | rfl | (exact rfl) | decide +kernel | k_is)
    (case xh1 => k_is); (case xz1 => k_is); (case xt1 => first | rfl | (exact rfl) | decide +kernel | k_is); (case xj1 => k_is); (case xk1 => k_is); (case xA1 => k_is); (case xE1 => k_is); (case xT1 => k_is)
    (case xO1 => k_is); (case xG1 => k_is); (case xH1 => k_is); (case xJ1 => k_is); (case xK1 => k_is); (case xL1 => k_is); (case xM1 => k_is); (case xP1 => k_is)
    (case xR1 => first | rfl | (exact rfl) | decide +kernel | k_is); (case xS1 => first | rfl | (exact rfl) | decide +kernel | k_is); (case z1 => k_is); (case z2 => k_is); (case z3 => k_is); (case z4 => k_is); (case z5 => k_is); (case z6 => k_is)
    (case z7 => k_is); (case z8 => k_is); (case z9 => k_is); (case z10 => k_is)
