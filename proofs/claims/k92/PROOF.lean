import PyProof.Rows.All
import Wide.All
import OpenK.AllK
import Wide.FinOn
import HandS.Base
import HandS.Call
import HandS.List
import HandS.Words
import HandS.HeadHook1
import HandS.Lambda
import HandS.HeadHook4
import HandS.EndTab
import HandS.HeadWalk
import HandS.ExcCtx
import HandS.Hot
import HandS.ExcIs
import HandS.Flow
import HandS.Exc
import HandS.ExcOwn
import HandS.TryOnly
import HandS.WordsExc
import HandS.Defaults
import HandS.Comp
import HandS.Iter
import HandS.TupAny
import HandS.Wide
import HandS.Style
import HandS.IsInst
import HandS.SortInts
import HandS.TupMul
import PyProof.ConsumeWalk
import PyProof.ConsumeS
import KE.GoesMore
import KE.GoesEnum
import HandS.More
import HandS.Conv
import PyProof.SumWalkG
import PyProof.WalkInts
import PyProof.WalksMore
import HandS.Small
import HandS.Deep
import HandS.CallSlots
import HandS.Head0
import HandS.Head1
import HandS.Head2
import HandS.HeadEnd
import HandS.HeadHook2
import HandS.RaiseMore
import HandS.SetFor
import HandS.TupSets
import KE.GoesComp
import PyProof.RulesMatch
import HandS.Text
import HandS.CallLocal
import HandS.DictTup
import KE.KDictDisplayH
import HandS.HeadHook3
import HandS.ExcValue
import PySem.Challenge.RW_coinmaster_k92_whole_leads_of_savings
set_option Elab.async false
set_option linter.all false
set_option maxRecDepth 100000
set_option maxHeartbeats 0
/-! Dn: data by value over the hand layer. Part 1: data, worlds, the relation. -/
namespace Dn
open PySem PySem.Spec PyProof.Rows L2

/-- data: tuples, and lists that are never changed, by value; obj: a thing that may change, by its place in the store -/
inductive D where
  | non | bl (b : Bool) | int (i : Int) | str (x : Str)
  | tup (xs : List D) | lst (xs : List D) | scr (xs : List D)
  | obj (i : Nat) | gl (x : Str) | ty (n : String) | adr (a : Addr)
/-- a thing that may change -/
inductive O where
  | lst (xs : List D)
  | dK (kvs : List (Key × D))
  | dT (kvs : List (List Key × D))
  | ins (c : Str) (fs : List (Str × D))
  | lkK (od : Obj) (xs : List (Key × V)) (fs : List (Key × D))
  | lkT (od : Obj) (xs : List (List Key × V)) (fs : List (List Key × D))
abbrev Env := List (Option D)
abbrev Store := List O
/-- the addresses of the store's things; those of lists that are being made -/
structure Wd where
  io : List Addr
  bz : List Addr

def KT (K : PySem.W.Frag) (a : Addr) (xs : List V) : Prop :=
  ∃ (o : Obj) (its : Array Value) (n : Nat), K.lookup a = some o ∧ o.cls = .type "tuple" ∧ o.data = .seq its n ∧ its.size ≤ sizeLine ∧ Vals xs its.toList
def KL (K : PySem.W.Frag) (a : Addr) (xs : List V) : Prop :=
  ∃ (o : Obj) (its : Array Value) (n : Nat), K.lookup a = some o ∧ o.cls = .type "list" ∧ o.dict = none ∧ o.data = .seq its n ∧ its.size ≤ sizeLine ∧ Vals xs its.toList
def StT (_ : PySem.W.Frag) (w : Wd) (H : Hp) (a : Addr) (xs : List V) : Prop := H a = some (.tup xs) ∧ a ∉ w.io ∧ a ∉ w.bz
def StL (w : Wd) (H : Hp) (a : Addr) (xs : List V) : Prop := H a = some (.lst xs) ∧ a ∉ w.io ∧ a ∉ w.bz
/-- a list that nobody may write: the script, a list of the module's top -/
def StF (K : PySem.W.Frag) (w : Wd) (H : Hp) (a : Addr) (xs : List V) : Prop := (Rd H a (.lst xs) ∧ a ∉ w.io ∧ a ∉ w.bz) ∨ KL K a xs
theorem StT.sq {K : PySem.W.Frag} {w : Wd} {H : Hp} {a : Addr} {xs : List V} (h : StT K w H a xs) : SqT K H a xs := .inl (.inl h.1)
theorem StL.sq {K : PySem.W.Frag} {w : Wd} {H : Hp} {a : Addr} {xs : List V} (h : StL w H a xs) : SqL K H a xs := .inl (.inl h.1)
theorem StF.sq {K : PySem.W.Frag} {w : Wd} {H : Hp} {a : Addr} {xs : List V} (h : StF K w H a xs) : SqL K H a xs := by
  rcases h with ⟨h, _⟩ | h
  · exact .inl h
  · exact .inr h
mutual
inductive RepV (K : PySem.W.Frag) (w : Wd) (H : Hp) : V → D → Prop
  | non : RepV K w H .non .non
  | bl (b : Bool) : RepV K w H (.bl b) (.bl b)
  | int (i : Int) : RepV K w H (.int i) (.int i)
  | str (x : Str) : RepV K w H (.str x) (.str x)
  | tup {a : Addr} {xs : List V} {ds : List D} : StT K w H a xs → RepVs K w H xs ds → RepV K w H (.ref a) (.tup ds)
  | lst {a : Addr} {xs : List V} {ds : List D} : StL w H a xs → RepVs K w H xs ds → RepV K w H (.ref a) (.lst ds)
  | scr {a : Addr} {xs : List V} {ds : List D} : StF K w H a xs → RepVs K w H xs ds → RepV K w H (.ref a) (.scr ds)
  | obj {i : Nat} {a : Addr} : w.io[i]? = some a → RepV K w H (.ref a) (.obj i)
  | gl (x : Str) : RepV K w H (.ref (He.ga K x)) (.gl x)
  | ty (n : String) : RepV K w H (.ty n) (.ty n)
  | adr (a : Addr) : RepV K w H (.ref a) (.adr a)
inductive RepVs (K : PySem.W.Frag) (w : Wd) (H : Hp) : List V → List D → Prop
  | nil : RepVs K w H [] []
  | cons {v : V} {vs : List V} {d : D} {ds : List D} : RepV K w H v d → RepVs K w H vs ds → RepVs K w H (v :: vs) (d :: ds)
end
/-- no table of code objects -/
def Nt (o : HO) : Prop := ∀ ps, o ≠ .tbl ps
theorem nt_lst {xs : List V} : Nt (.lst xs) := fun _ e => by cases e
theorem nt_tup {xs : List V} : Nt (.tup xs) := fun _ e => by cases e
theorem nt_dK {xs : List (Key × V)} : Nt (.dK xs) := fun _ e => by cases e
theorem nt_dT {xs : List (List Key × V)} : Nt (.dT xs) := fun _ e => by cases e
theorem nt_ins {C d : Addr} {xs : List (Str × V)} : Nt (.ins C d xs) := fun _ e => by cases e
theorem nt_frz {o : Obj} {u : HO} : Nt (.frz o u) := fun _ e => by cases e
theorem nt_xd {xs : List (Str × V)} : Nt (.xd xs) := fun _ e => by cases e
/-- .. and no code object -/
def Ny (o : HO) : Prop := Nt o ∧ ∀ φ, o ≠ .ext φ
theorem ny_lst {xs : List V} : Ny (.lst xs) := ⟨nt_lst, fun _ e => by cases e⟩
theorem ny_dK {xs : List (Key × V)} : Ny (.dK xs) := ⟨nt_dK, fun _ e => by cases e⟩
theorem ny_dT {xs : List (List Key × V)} : Ny (.dT xs) := ⟨nt_dT, fun _ e => by cases e⟩
theorem ny_ins {C d : Addr} {xs : List (Str × V)} : Ny (.ins C d xs) := ⟨nt_ins, fun _ e => by cases e⟩
theorem ny_frz {o : Obj} {u : HO} : Ny (.frz o u) := ⟨nt_frz, fun _ e => by cases e⟩
/-- the names of defs that make lambdas -/
def lamNames : List Str := ["law", "_law_nine", "_law_words", "_law_right", "_law_four", "_law_seven", "_law_three", "_law_texts_right", "_law_first_right", "_law_written_right", "_law_part_one", "_law_part_two", "_law_great_right", "_law_log_right", "_law_long", "_law_signs_right", "chained"]
def lamOn (K : PySem.W.Frag) (x : Str) : Bool := PySem.W.codeHdIn K (He.cT K (x, none)).1 (He.cT K (x, none)).2
/-- the tables of their code objects, and the names that lambdas bear -/
def lamT (K : PySem.W.Frag) : List (Addr × Str) := (lamNames.filter (lamOn K)).map fun x => ((He.cT K (x, none)).2, x ++ ".<locals>." ++ "<lambda>")
/-- values stay what they are -/
structure Mv (w : Wd) (H : Hp) (w' : Wd) (H' : Hp) : Prop where
  pre : ∃ t, w'.io = w.io ++ t
  keep : ∀ a o, H a = some o → Nt o → a ∉ w.io → a ∉ w.bz → H' a = some o ∧ a ∉ w'.io ∧ a ∉ w'.bz
/-- what stands, stands -/
structure Ext (w : Wd) (H : Hp) (w' : Wd) (H' : Hp) : Prop extends Mv w H w' H' where
  bz : ∀ a ∈ w.bz, a ∈ w'.bz ∧ H' a = H a
section
variable {K : PySem.W.Frag} {w w1 w2 w' : Wd} {H H1 H2 H' : Hp} {v : V} {d : D} {vs xs : List V} {ds : List D} {a p : Addr} {o : HO}
theorem Ext.refl : Ext w H w H := ⟨⟨⟨[], by simp⟩, fun _ _ h _ n b => ⟨h, n, b⟩⟩, fun _ h => ⟨h, rfl⟩⟩
theorem Ext.trans (a : Ext w H w1 H1) (b : Ext w1 H1 w2 H2) : Ext w H w2 H2 := by
  obtain ⟨t, e⟩ := a.pre
  obtain ⟨u, f⟩ := b.pre
  exact ⟨⟨⟨t ++ u, by rw [f, e, List.append_assoc]⟩, fun c o h k n m => let ⟨h1, n1, m1⟩ := a.keep c o h k n m; b.keep c o h1 k n1 m1⟩,
    fun c hc => let ⟨h1, e1⟩ := a.bz c hc; let ⟨h2, e2⟩ := b.bz c h1; ⟨h2, e2.trans e1⟩⟩
theorem Mv.get (e : Mv w H w' H') {i : Nat} (h : w.io[i]? = some a) : w'.io[i]? = some a := by
  obtain ⟨t, f⟩ := e.pre
  rw [f, List.getElem?_append_left (List.getElem?_eq_some_iff.mp h).1]
  exact h
theorem Rd.ext {u : HO} (e : Mv w H w' H') (k : Nt u) (h : Rd H a u) (n : a ∉ w.io) (b : a ∉ w.bz) : Rd H' a u ∧ a ∉ w'.io ∧ a ∉ w'.bz := by
  rcases h with h | ⟨o, h⟩
  · exact ⟨.inl (e.keep _ _ h k n b).1, (e.keep _ _ h k n b).2⟩
  · exact ⟨.inr ⟨o, (e.keep _ _ h nt_frz n b).1⟩, (e.keep _ _ h nt_frz n b).2⟩
theorem StT.mv (e : Mv w H w' H') (h : StT K w H a xs) : StT K w' H' a xs := e.keep _ _ h.1 nt_tup h.2.1 h.2.2
theorem StL.mv (e : Mv w H w' H') (h : StL w H a xs) : StL w' H' a xs := e.keep _ _ h.1 nt_lst h.2.1 h.2.2
theorem StF.mv (e : Mv w H w' H') (h : StF K w H a xs) : StF K w' H' a xs := by
  rcases h with ⟨h, n, b⟩ | h
  · exact .inl (Rd.ext e nt_lst h n b)
  · exact .inr h
theorem StT.ext (e : Ext w H w' H') (h : StT K w H a xs) : StT K w' H' a xs := h.mv e.toMv
theorem StL.ext (e : Ext w H w' H') (h : StL w H a xs) : StL w' H' a xs := h.mv e.toMv
theorem StF.ext (e : Ext w H w' H') (h : StF K w H a xs) : StF K w' H' a xs := h.mv e.toMv
end
section
variable {K : PySem.W.Frag} {w w' : Wd} {H H' : Hp}
mutual
theorem RepV.mv (e : Mv w H w' H') : ∀ {v : V} {d : D}, RepV K w H v d → RepV K w' H' v d
  | _, _, .non => .non
  | _, _, .bl b => .bl b
  | _, _, .int i => .int i
  | _, _, .str x => .str x
  | _, _, .tup h hs => .tup (h.mv e) (RepVs.mv e hs)
  | _, _, .lst h hs => .lst (h.mv e) (RepVs.mv e hs)
  | _, _, .scr h hs => .scr (h.mv e) (RepVs.mv e hs)
  | _, _, .obj h => .obj (e.get h)
  | _, _, .gl x => .gl x
  | _, _, .ty n => .ty n
  | _, _, .adr a => .adr a
theorem RepVs.mv (e : Mv w H w' H') : ∀ {vs : List V} {ds : List D}, RepVs K w H vs ds → RepVs K w' H' vs ds
  | _, _, .nil => .nil
  | _, _, .cons h hs => .cons (RepV.mv e h) (RepVs.mv e hs)
end
theorem RepV.ext (e : Ext w H w' H') {v : V} {d : D} (h : RepV K w H v d) : RepV K w' H' v d := h.mv e.toMv
theorem RepVs.ext (e : Ext w H w' H') {vs : List V} {ds : List D} (h : RepVs K w H vs ds) : RepVs K w' H' vs ds := h.mv e.toMv
end
section
variable {K : PySem.W.Frag} {w w1 w2 w' : Wd} {H H1 H2 H' : Hp} {v : V} {d : D} {vs xs ys : List V} {ds es : List D} {a p : Addr} {o : HO}
theorem RepVs.length : ∀ {vs : List V} {ds : List D}, RepVs K w H vs ds → vs.length = ds.length
  | _, _, .nil => rfl
  | _, _, .cons _ h => by rw [List.length_cons, List.length_cons, RepVs.length h]
theorem RepVs.get : ∀ {vs : List V} {ds : List D} {i : Nat} {d : D}, RepVs K w H vs ds → ds[i]? = some d → ∃ v, vs[i]? = some v ∧ RepV K w H v d
  | _, _, _, _, .nil, e => by simp at e
  | _, _, 0, _, .cons r _, e => by simp at e; subst e; exact ⟨_, rfl, r⟩
  | _, _, i + 1, d, .cons _ t, e => by
    obtain ⟨u, h1, h2⟩ := RepVs.get (i := i) (d := d) t (by simpa using e)
    exact ⟨u, by simpa using h1, h2⟩
theorem RepVs.getV : ∀ {vs : List V} {ds : List D} {i : Nat} {v : V}, RepVs K w H vs ds → vs[i]? = some v → ∃ d, ds[i]? = some d ∧ RepV K w H v d
  | _, _, _, _, .nil, e => by simp at e
  | _, _, 0, _, .cons r _, e => by simp at e; subst e; exact ⟨_, rfl, r⟩
  | _, _, i + 1, d, .cons _ t, e => by
    obtain ⟨u, h1, h2⟩ := RepVs.getV (i := i) (v := d) t (by simpa using e)
    exact ⟨u, by simpa using h1, h2⟩
theorem RepVs.append : ∀ {vs xs : List V} {ds es : List D}, RepVs K w H vs ds → RepVs K w H xs es → RepVs K w H (vs ++ xs) (ds ++ es)
  | _, _, _, _, .nil, s => s
  | _, _, _, _, .cons r t, s => .cons r (RepVs.append t s)
theorem RepVs.take : ∀ {vs : List V} {ds : List D} (n : Nat), RepVs K w H vs ds → RepVs K w H (vs.take n) (ds.take n)
  | _, _, 0, _ => .nil
  | _, _, _ + 1, .nil => .nil
  | _, _, n + 1, .cons r t => .cons r (RepVs.take n t)
theorem RepVs.drop : ∀ {vs : List V} {ds : List D} (n : Nat), RepVs K w H vs ds → RepVs K w H (vs.drop n) (ds.drop n)
  | _, _, 0, r => r
  | _, _, _ + 1, .nil => .nil
  | _, _, n + 1, .cons _ t => RepVs.drop n t
theorem RepVs.set (r : RepV K w H v d) : ∀ {vs : List V} {ds : List D} (i : Nat), RepVs K w H vs ds → RepVs K w H (vs.set i v) (ds.set i d)
  | _, _, _, .nil => .nil
  | _, _, 0, .cons _ t => .cons r t
  | _, _, i + 1, .cons q t => .cons q (RepVs.set r i t)
theorem RepVs.reverse : ∀ {vs : List V} {ds : List D}, RepVs K w H vs ds → RepVs K w H vs.reverse ds.reverse
  | _, _, .nil => .nil
  | _, _, .cons r t => by rw [List.reverse_cons, List.reverse_cons]; exact (RepVs.reverse t).append (.cons r .nil)
theorem RepVs.one {v : V} {d : D} (h : RepV K w H v d) : RepVs K w H [v] [d] := .cons h .nil
/-- named values -/
def RepF {κ : Type} (K : PySem.W.Frag) (w : Wd) (H : Hp) (xs : List (κ × V)) (fs : List (κ × D)) : Prop := xs.map (·.1) = fs.map (·.1) ∧ RepVs K w H (xs.map (·.2)) (fs.map (·.2))
theorem RepF.mv {κ : Type} {xs : List (κ × V)} {fs : List (κ × D)} (e : Mv w H w' H') (h : RepF K w H xs fs) : RepF K w' H' xs fs := ⟨h.1, h.2.mv e⟩
theorem RepF.ext {κ : Type} {xs : List (κ × V)} {fs : List (κ × D)} (e : Ext w H w' H') (h : RepF K w H xs fs) : RepF K w' H' xs fs := h.mv e.toMv
def RepO (K : PySem.W.Frag) (w : Wd) (H : Hp) (a : Addr) : O → Prop
  | .lst ds => ∃ xs, H a = some (.lst xs) ∧ RepVs K w H xs ds
  | .dK fs => ∃ xs, H a = some (.dK xs) ∧ RepF K w H xs fs
  | .dT fs => ∃ xs, H a = some (.dT xs) ∧ RepF K w H xs fs
  | .ins c fs => ∃ dx xs, H a = some (.ins (He.ga K c) dx xs) ∧ RepF K w H xs fs
  | .lkK od xs fs => H a = some (.frz od (.dK xs)) ∧ RepF K w H xs fs
  | .lkT od xs fs => H a = some (.frz od (.dT xs)) ∧ RepF K w H xs fs
theorem RepO.some {o : O} (h : RepO K w H a o) : ∃ u, H a = some u := by
  cases o with
  | lst ds => obtain ⟨xs, e, _⟩ := h; exact ⟨_, e⟩
  | dK ds => obtain ⟨xs, e, _⟩ := h; exact ⟨_, e⟩
  | dT ds => obtain ⟨xs, e, _⟩ := h; exact ⟨_, e⟩
  | ins c ds => obtain ⟨_, xs, e, _⟩ := h; exact ⟨_, e⟩
  | lkK od xs ds => exact ⟨_, h.1⟩
  | lkT od xs ds => exact ⟨_, h.1⟩
theorem RepO.mv {o : O} (e : Mv w H w' H') (k : H' a = H a) (h : RepO K w H a o) : RepO K w' H' a o := by
  cases o with
  | lst ds => obtain ⟨xs, f, r⟩ := h; exact ⟨xs, k.trans f, r.mv e⟩
  | dK ds => obtain ⟨xs, f, r⟩ := h; exact ⟨xs, k.trans f, r.mv e⟩
  | dT ds => obtain ⟨xs, f, r⟩ := h; exact ⟨xs, k.trans f, r.mv e⟩
  | ins c ds => obtain ⟨dx, xs, f, r⟩ := h; exact ⟨dx, xs, k.trans f, r.mv e⟩
  | lkK od xs ds => exact ⟨k.trans h.1, h.2.mv e⟩
  | lkT od xs ds => exact ⟨k.trans h.1, h.2.mv e⟩
theorem RepO.ext {o : O} (e : Ext w H w' H') (k : H' a = H a) (h : RepO K w H a o) : RepO K w' H' a o := h.mv e.toMv k
structure HeapRel (K : PySem.W.Frag) (w : Wd) (H : Hp) (η : Store) : Prop where
  len : w.io.length = η.length
  nd : w.io.Nodup
  at_ : ∀ (i : Nat) (a : Addr) (o : O), w.io[i]? = some a → η[i]? = some o → RepO K w H a o
  bz : ∀ a ∈ w.bz, a ∉ w.io ∧ ∃ u, H a = some u ∧ Ny u
  tb : LamX.Tabs (lamT K) H
theorem repO_ny {o : O} (h : RepO K w H a o) : ∃ u, H a = some u ∧ Ny u := by
  cases o with
  | lst ds => obtain ⟨xs, e, _⟩ := h; exact ⟨_, e, ny_lst⟩
  | dK ds => obtain ⟨xs, e, _⟩ := h; exact ⟨_, e, ny_dK⟩
  | dT ds => obtain ⟨xs, e, _⟩ := h; exact ⟨_, e, ny_dT⟩
  | ins c ds => obtain ⟨_, xs, e, _⟩ := h; exact ⟨_, e, ny_ins⟩
  | lkK od xs ds => exact ⟨_, h.1, ny_frz⟩
  | lkT od xs ds => exact ⟨_, h.1, ny_frz⟩
theorem tabs_upd {T : List (Addr × Str)} {u : HO} (t : LamX.Tabs T H) (ha : H a = some u) (k : Ny u) : LamX.Tabs T (upd H a o) := by
  intro p hp
  obtain ⟨ps, h1, h2, h3⟩ := t p hp
  have ne : p.1 ≠ a := fun z => by
    rw [z, ha] at h1
    exact k.1 ps (Option.some.inj h1)
  refine ⟨ps, by rw [upd_ne ne]; exact h1, h2, fun pos cv hc => ?_⟩
  obtain ⟨c, e1, e2⟩ := h3 pos cv hc
  refine ⟨c, e1, ?_⟩
  rw [upd_ne]
  · exact e2
  · intro z
    rw [z, ha] at e2
    exact k.2 _ (Option.some.inj e2)
theorem tabs_new {T : List (Addr × Str)} (t : LamX.Tabs T H) (hp : H p = none) : LamX.Tabs T (upd H p o) := t.ext fun b u h => by rw [upd_ne (ne_of_none h hp)]; exact h
theorem HeapRel.trkN {η : Store} (h : HeapRel K w H η) (ha : a ∈ w.io) : ∃ u, H a = some u ∧ Ny u := by
  obtain ⟨i, hi, e⟩ := List.getElem_of_mem ha
  have e1 : w.io[i]? = some a := by rw [List.getElem?_eq_getElem hi, e]
  have hi2 : i < η.length := h.len ▸ hi
  exact repO_ny (h.at_ i a _ e1 (List.getElem?_eq_getElem hi2))
theorem HeapRel.trk {η : Store} (h : HeapRel K w H η) (ha : a ∈ w.io) : ∃ u, H a = some u := by
  obtain ⟨i, hi, e⟩ := List.getElem_of_mem ha
  have e1 : w.io[i]? = some a := by rw [List.getElem?_eq_getElem hi, e]
  have hi2 : i < η.length := h.len ▸ hi
  exact (h.at_ i a _ e1 (List.getElem?_eq_getElem hi2)).some
theorem HeapRel.new {η : Store} (h : HeapRel K w H η) (hp : H p = none) : p ∉ w.io ∧ p ∉ w.bz := by
  refine ⟨fun q => ?_, fun q => ?_⟩
  · obtain ⟨u, e⟩ := h.trk q; rw [hp] at e; cases e
  · obtain ⟨_, u, e, _⟩ := h.bz p q; rw [hp] at e; cases e
/-- a new object that never changes -/
theorem Mv.laid (hp : H p = none) : Mv w H w (upd H p o) := ⟨⟨[], by simp⟩, fun b u h _ m n => ⟨by rw [upd_ne (ne_of_none h hp)]; exact h, m, n⟩⟩
theorem Ext.laid {η : Store} (hp : H p = none) (hr : HeapRel K w H η) : Ext w H w (upd H p o) :=
  ⟨Mv.laid hp, fun b hb => ⟨hb, by obtain ⟨_, u, f, _⟩ := hr.bz b hb; rw [upd_ne (ne_of_none f hp)]⟩⟩
theorem HeapRel.laid {η : Store} (h : HeapRel K w H η) (hp : H p = none) : HeapRel K w (upd H p o) η := by
  have e : Ext w H w (upd H p o) := Ext.laid hp h
  refine ⟨h.len, h.nd, fun i a ob ha ho => ?_, fun b hb => ?_, tabs_new h.tb hp⟩
  · refine (h.at_ i a ob ha ho).ext e (upd_ne fun q => ?_)
    subst q
    exact (h.new hp).1 (List.mem_of_getElem? ha)
  · obtain ⟨n, u, f, k⟩ := h.bz b hb
    exact ⟨n, u, by rw [upd_ne (ne_of_none f hp)]; exact f, k⟩
theorem StT.of_new {η : Store} (h : HeapRel K w H η) (hp : H p = none) : StT K w (upd H p (.tup xs)) p xs := ⟨upd_same, (h.new hp).1, (h.new hp).2⟩
theorem StL.of_new {η : Store} (h : HeapRel K w H η) (hp : H p = none) : StL w (upd H p (.lst xs)) p xs := ⟨upd_same, (h.new hp).1, (h.new hp).2⟩
/-- a new thing that may change -/
abbrev Wd.more (w : Wd) (p : Addr) : Wd := ⟨w.io ++ [p], w.bz⟩
theorem Ext.more {η : Store} (hp : H p = none) (hr : HeapRel K w H η) : Ext w H (w.more p) (upd H p o) :=
  ⟨⟨⟨[p], rfl⟩, fun b u h _ m n => ⟨by rw [upd_ne (ne_of_none h hp)]; exact h, (by
    intro q
    rcases List.mem_append.mp q with q | q
    · exact m q
    · have e : b = p := by simpa using q
      rw [e, hp] at h; cases h), n⟩⟩, fun b hb => ⟨hb, by obtain ⟨_, u, f, _⟩ := hr.bz b hb; rw [upd_ne (ne_of_none f hp)]⟩⟩
theorem HeapRel.more {η : Store} {ob : O} (h : HeapRel K w H η) (hp : H p = none) (r : RepO K (w.more p) (upd H p o) p ob) : HeapRel K (w.more p) (upd H p o) (η ++ [ob]) := by
  have e : Ext w H (w.more p) (upd H p o) := Ext.more hp h
  have hn := h.new hp
  refine ⟨by simp [h.len], ?_, fun i a ob' ha ho => ?_, fun b hb => ?_, tabs_new h.tb hp⟩
  · exact List.nodup_append.mpr ⟨h.nd, by simp, fun a ha b hb => by
      have e : b = p := by simpa using hb
      subst e
      exact fun q => hn.1 (q ▸ ha)⟩
  · by_cases hi : i < w.io.length
    · rw [List.getElem?_append_left hi] at ha
      rw [List.getElem?_append_left (h.len ▸ hi)] at ho
      refine (h.at_ i a ob' ha ho).ext e (upd_ne fun q => ?_)
      subst q
      exact hn.1 (List.mem_of_getElem? ha)
    · have hi' : i = w.io.length := by
        have := (List.getElem?_eq_some_iff.mp ha).1
        simp at this; omega
      subst hi'
      rw [List.getElem?_append_right (Nat.le_refl _)] at ha
      rw [h.len, List.getElem?_append_right (Nat.le_refl _)] at ho
      simp at ha ho
      subst ha ho
      exact r
  · obtain ⟨n, u, f, k⟩ := h.bz b hb
    refine ⟨fun q => ?_, u, by rw [upd_ne (ne_of_none f hp)]; exact f, k⟩
    rcases List.mem_append.mp q with q | q
    · exact n q
    · have e : b = p := by simpa using q
      rw [e] at hb
      exact hn.2 hb
/-- a thing changes -/
theorem ne_mem {b : Addr} {i : Nat} (ha : w.io[i]? = some a) (m : b ∉ w.io) : b ≠ a := fun q => by
  subst q
  exact m (List.mem_of_getElem? ha)
theorem ix_nd {α : Type} {N : List α} (hN : N.Nodup) {i j : Nat} {x : α} (a : N[i]? = some x) (b : N[j]? = some x) : i = j := by
  obtain ⟨h1, e1⟩ := List.getElem?_eq_some_iff.mp a
  obtain ⟨h2, e2⟩ := List.getElem?_eq_some_iff.mp b
  exact (List.getElem_inj hN).mp (e1.trans e2.symm)
theorem Ext.write {i : Nat} {η : Store} (ha : w.io[i]? = some a) (hr : HeapRel K w H η) : Ext w H w (upd H a o) :=
  ⟨⟨⟨[], by simp⟩, fun b u h _ m n => ⟨by rw [upd_ne (ne_mem ha m)]; exact h, m, n⟩⟩, fun b hb => ⟨hb, by rw [upd_ne (ne_mem ha (hr.bz b hb).1)]⟩⟩
theorem HeapRel.write {η : Store} {ob : O} {i : Nat} (h : HeapRel K w H η) (ha : w.io[i]? = some a) (r : RepO K w (upd H a o) a ob) : HeapRel K w (upd H a o) (η.set i ob) := by
  have e : Ext w H w (upd H a o) := Ext.write ha h
  obtain ⟨u0, f0, k0⟩ := h.trkN (List.mem_of_getElem? ha)
  refine ⟨by simp [h.len], h.nd, fun j b ob' hb ho => ?_, fun b hb => ?_, tabs_upd h.tb f0 k0⟩
  · by_cases hj : j = i
    · subst hj
      rw [ha] at hb; cases hb
      have hl : j < η.length := h.len ▸ (List.getElem?_eq_some_iff.mp ha).1
      rw [List.getElem?_set_self hl] at ho
      cases ho
      exact r
    · rw [List.getElem?_set_ne (Ne.symm hj)] at ho
      refine (h.at_ j b ob' hb ho).ext e (upd_ne fun q => hj ?_)
      subst q
      exact ix_nd h.nd hb ha
  · obtain ⟨n, u, f, k⟩ := h.bz b hb
    exact ⟨n, u, by rw [upd_ne (ne_mem ha n)]; exact f, k⟩
structure EnvRel (K : PySem.W.Frag) (w : Wd) (σ : L2.St) (H : Hp) (ρ : Env) : Prop where
  len : ρ.length = σ.length
  at_ : ∀ (i : Nat) (d : D), ρ[i]? = some (some d) → ∃ v, σ[i]? = some (some v) ∧ RepV K w H v d
theorem EnvRel.mv {σ : L2.St} {ρ : Env} (e : Mv w H w' H') (h : EnvRel K w σ H ρ) : EnvRel K w' σ H' ρ :=
  ⟨h.len, fun i d q => let ⟨v, a, b⟩ := h.at_ i d q; ⟨v, a, b.mv e⟩⟩
theorem EnvRel.ext {σ : L2.St} {ρ : Env} (e : Ext w H w' H') (h : EnvRel K w σ H ρ) : EnvRel K w' σ H' ρ :=
  ⟨h.len, fun i d q => let ⟨v, a, b⟩ := h.at_ i d q; ⟨v, a, b.ext e⟩⟩
theorem EnvRel.set {σ : L2.St} {ρ : Env} {i : Nat} (h : EnvRel K w σ H ρ) (r : RepV K w H v d) : EnvRel K w (σ.set i (some v)) H (ρ.set i (some d)) := by
  refine ⟨by simp [h.len], fun j e q => ?_⟩
  by_cases hj : j = i
  · subst hj
    by_cases hl : j < ρ.length
    · rw [List.getElem?_set_self hl] at q
      cases q
      exact ⟨v, List.getElem?_set_self (h.len ▸ hl), r⟩
    · rw [List.getElem?_eq_none (by simpa using hl)] at q; cases q
  · rw [List.getElem?_set_ne (Ne.symm hj)] at q
    obtain ⟨u, a, b⟩ := h.at_ j e q
    exact ⟨u, by rw [List.getElem?_set_ne (Ne.symm hj)]; exact a, b⟩
structure Rel (K : PySem.W.Frag) (w : Wd) (σ : L2.St) (H : Hp) (ρ : Env) (η : Store) : Prop where
  env : EnvRel K w σ H ρ
  heap : HeapRel K w H η
end

/-! ### answers -/
/-- an error: its class by name, its fields (none: a class without own __init__) -/
structure Ex where
  cls : Str
  fs : Option (List (Str × D))
inductive R (α : Type) where
  | ok (a : α) (η : Store)
  | exc (x : Ex) (η : Store)
  | no
inductive RS where
  | nx (ρ : Env) (η : Store)
  | ret (d : D) (η : Store)
  | brk (ρ : Env) (η : Store)
  | cnt (ρ : Env) (η : Store)
  | exc (x : Ex) (ρ : Env) (η : Store)
  | no
def R.bind {α β : Type} (r : R α) (k : α → Store → R β) : R β := match r with
  | .ok a η => k a η
  | .exc x η => .exc x η
  | .no => .no
def R.bindS {α : Type} (r : R α) (ρ : Env) (k : α → Store → RS) : RS := match r with
  | .ok a η => k a η
  | .exc x η => .exc x ρ η
  | .no => .no
def liftO {α : Type} : Option (α × Store) → R α
  | some (a, η) => .ok a η
  | none => .no
@[simp] theorem R.bind_ok {α β : Type} {a : α} {η : Store} {k : α → Store → R β} : (R.ok a η).bind k = k a η := rfl
@[simp] theorem R.bind_exc {α β : Type} {x : Ex} {η : Store} {k : α → Store → R β} : (R.exc x η : R α).bind k = .exc x η := rfl
@[simp] theorem R.bind_no {α β : Type} {k : α → Store → R β} : (R.no : R α).bind k = .no := rfl
@[simp] theorem R.bindS_ok {α : Type} {a : α} {η : Store} {ρ : Env} {k : α → Store → RS} : (R.ok a η).bindS ρ k = k a η := rfl
@[simp] theorem R.bindS_exc {α : Type} {x : Ex} {η : Store} {ρ : Env} {k : α → Store → RS} : (R.exc x η : R α).bindS ρ k = .exc x ρ η := rfl
@[simp] theorem R.bindS_no {α : Type} {ρ : Env} {k : α → Store → RS} : (R.no : R α).bindS ρ k = .no := rfl
@[simp] theorem liftO_some {α : Type} {p : α × Store} : liftO (some p) = .ok p.1 p.2 := rfl
@[simp] theorem liftO_none {α : Type} : liftO (none : Option (α × Store)) = .no := rfl

def RepX (K : PySem.W.Frag) (w : Wd) (H : Hp) (c : Value) (d : Option Addr) (x : Ex) : Prop := c = .ref (He.ga K x.cls) ∧
  match x.fs with
  | none => d = none
  | some fs => ∃ a xs, d = some a ∧ H a = some (.xd xs) ∧ a ∉ w.io ∧ RepF K w H xs fs
abbrev Rp (α β : Type) := Wd → Hp → β → α → Prop
def Post {α β : Type} (K : PySem.W.Frag) (rep : Rp α β) (w : Wd) (H : Hp) (Q : β → Hp → Prop) (W : XK) : R α → Prop
  | .ok a η => ∀ v w' H', Ext w H w' H' → HeapRel K w' H' η → rep w' H' v a → Q v H'
  | .exc x η => ∀ c d w' H', Ext w H w' H' → HeapRel K w' H' η → RepX K w' H' c d x → W c d H'
  | .no => False
def PostS (K : PySem.W.Frag) (w : Wd) (H : Hp) (E : Ends) (W : WX) : RS → Prop
  | .nx ρ η => ∀ σ w' H', Ext w H w' H' → Rel K w' σ H' ρ η → E.nx σ H'
  | .ret d η => ∀ v w' H', Ext w H w' H' → HeapRel K w' H' η → RepV K w' H' v d → E.rt v H'
  | .brk ρ η => ∀ σ w' H', Ext w H w' H' → Rel K w' σ H' ρ η → E.bk σ H'
  | .cnt ρ η => ∀ σ w' H', Ext w H w' H' → Rel K w' σ H' ρ η → E.ct σ H'
  | .exc x ρ η => ∀ c d σ w' H', Ext w H w' H' → Rel K w' σ H' ρ η → RepX K w' H' c d x → W c d σ H'
  | .no => False
section
variable {α β γ δ : Type} {K : PySem.W.Frag} {w w1 : Wd} {H H1 : Hp} {rep : Rp α β} {rep2 : Rp γ δ} {Q Q' : β → Hp → Prop} {Q2 : δ → Hp → Prop} {W W' : XK} {r : R α} {k : α → Store → R γ} {E : Ends} {WS : WX}
theorem Post.weak (e : Ext w H w1 H1) (h : Post K rep w H Q W r) : Post K rep w1 H1 Q W r := by
  cases r with
  | ok a η => exact fun v w' H' e' => h v w' H' (e.trans e')
  | exc x η => exact fun c d w' H' e' => h c d w' H' (e.trans e')
  | no => exact h
theorem Post.imp (m : ∀ v H, Q v H → Q' v H) (h : Post K rep w H Q W r) : Post K rep w H Q' W r := by
  cases r with
  | ok a η => exact fun v w' H' e' hr rp => m _ _ (h v w' H' e' hr rp)
  | exc x η => exact h
  | no => exact h
theorem Post.bind (h : Post K rep2 w H Q2 W (r.bind k)) : Post K rep w H (fun v H1 => ∃ w1 a η1, Ext w H w1 H1 ∧ HeapRel K w1 H1 η1 ∧ rep w1 H1 v a ∧ Post K rep2 w1 H1 Q2 W (k a η1)) W r := by
  cases r with
  | ok a η => exact fun v w' H' e' hr rp => ⟨w', a, η, e', hr, rp, h.weak e'⟩
  | exc x η => exact h
  | no => exact h
theorem Post.lift {o : Option (α × Store)} (h : Post K rep w H Q W (liftO o)) : Post K rep w H Q W' (liftO o) := by
  cases o with
  | none => exact h
  | some p => exact h
theorem PostS.weak {r : RS} (e : Ext w H w1 H1) (h : PostS K w H E WS r) : PostS K w1 H1 E WS r := by
  cases r with
  | nx ρ η => exact fun σ w' H' e' => h σ w' H' (e.trans e')
  | brk ρ η => exact fun σ w' H' e' => h σ w' H' (e.trans e')
  | cnt ρ η => exact fun σ w' H' e' => h σ w' H' (e.trans e')
  | ret d η => exact fun v w' H' e' => h v w' H' (e.trans e')
  | exc x ρ η => exact fun c d σ w' H' e' => h c d σ w' H' (e.trans e')
  | no => exact h
theorem PostS.bind {σ : L2.St} {ρ : Env} {kS : α → Store → RS} (env : EnvRel K w σ H ρ) (h : PostS K w H E WS (r.bindS ρ kS)) :
    Post K rep w H (fun v H1 => ∃ w1 a η1, Ext w H w1 H1 ∧ Rel K w1 σ H1 ρ η1 ∧ rep w1 H1 v a ∧ PostS K w1 H1 E WS (kS a η1)) (fun c d H' => WS c d σ H') r := by
  cases r with
  | ok a η => exact fun v w' H' e' hr rp => ⟨w', a, η, e', ⟨env.ext e', hr⟩, rp, h.weak e'⟩
  | exc x η => exact fun c d w' H' e' hr rx => h c d σ w' H' e' ⟨env.ext e', hr⟩ rx
  | no => exact h
end

/-! ### judgements -/
abbrev FE := Env → Store → R D
abbrev FT := Env → Store → R Bool
abbrev FA := Env → Store → R (List D)
abbrev FS := Env → Store → RS
def rdE (K : PySem.W.Frag) (W : WX) (f : FE) : TE := fun σ H Q => ∃ w ρ η, Rel K w σ H ρ η ∧ Post K (RepV K) w H Q (fun c d H' => W c d σ H') (f ρ η)
def rdT (K : PySem.W.Frag) (W : WX) (f : FT) : TT := fun σ H Q => ∃ w ρ η, Rel K w σ H ρ η ∧ Post K (fun _ _ (b c : Bool) => b = c) w H Q (fun c d H' => W c d σ H') (f ρ η)
def rdA (K : PySem.W.Frag) (W : WX) (f : FA) : TA := fun σ H Q => ∃ w ρ η, Rel K w σ H ρ η ∧ Post K (RepVs K) w H Q (fun c d H' => W c d σ H') (f ρ η)
def rdS (K : PySem.W.Frag) (W : WX) (f : FS) : TS := fun E σ H => ∃ w ρ η, Rel K w σ H ρ η ∧ PostS K w H E W (f ρ η)
abbrev DE (X : Cx) (W : WX) (e : Expr) (f : FE) : Prop := PE X e (rdE X.K W f)
abbrev DT (X : Cx) (W : WX) (e : Expr) (f : FT) : Prop := PT X e (rdT X.K W f)
abbrev DW (X : Cx) (W : WX) (e : Expr) (f : FT) : Prop := PW X e (rdT X.K W f)
abbrev DA (X : Cx) (W : WX) (es : List Expr) (f : FA) : Prop := PA X es (rdA X.K W f)
abbrev DS (X : Cx) (W : WX) (s : Stmt) (f : FS) : Prop := PS X s (rdS X.K W f)
abbrev DSs (X : Cx) (W : WX) (s : List Stmt) (f : FS) : Prop := PSs X s (rdS X.K W f)
section
variable {X : Cx} {e : Expr} {es : List Expr} {s : Stmt} {ss : List Stmt}
theorem PE.imp {t t' : TE} (h : PE X e t) (m : ∀ σ H Q, t' σ H Q → t σ H Q) : PE X e t' := ⟨fun pins s σ H Q I q => h.run pins s σ H Q I (m σ H Q q)⟩
theorem PT.imp {t t' : TT} (h : PT X e t) (m : ∀ σ H Q, t' σ H Q → t σ H Q) : PT X e t' := ⟨fun pins s σ H Q I q => h.run pins s σ H Q I (m σ H Q q)⟩
theorem PW.imp {t t' : TT} (h : PW X e t) (m : ∀ σ H Q, t' σ H Q → t σ H Q) : PW X e t' := ⟨fun wh pins s σ H Q I q => h.run wh pins s σ H Q I (m σ H Q q)⟩
theorem PA.imp {t t' : TA} (h : PA X es t) (m : ∀ σ H Q, t' σ H Q → t σ H Q) : PA X es t' := ⟨fun pos pins s σ H Q I q => h.run pos pins s σ H Q I (m σ H Q q)⟩
theorem PS.imp {t t' : TS} (h : PS X s t) (m : ∀ E σ H, t' E σ H → t E σ H) : PS X s t' := ⟨fun pins s σ H D I q => h.run pins s σ H D I (m D σ H q)⟩
theorem PSs.imp {t t' : TS} (h : PSs X ss t) (m : ∀ E σ H, t' E σ H → t E σ H) : PSs X ss t' := ⟨fun pins s σ H D I q => h.run pins s σ H D I (m D σ H q)⟩
end
end Dn
/-! Dn part 2: expressions, calls. -/
namespace Dn
open PySem PySem.Spec PyProof.Rows L2
section
variable {α β γ δ : Type} {X : Cx} {W : WX} {K : PySem.W.Frag} {w w1 w' : Wd} {σ : L2.St} {H H1 H' : Hp} {ρ : Env} {η η1 : Store} {fa fb fc f : FE} {a b c e : Expr} {es : List Expr} {pos p : Pos}
/-! ### wishes grow -/
theorem rdE.imp {Q Q' : VK} (m : ∀ v H, Q v H → Q' v H) (h : rdE K W f σ H Q) : rdE K W f σ H Q' :=
  let ⟨w, ρ, η, r, p⟩ := h; ⟨w, ρ, η, r, p.imp m⟩
/-- one expression, then more -/
theorem rdE_then {rep : Rp γ δ} {Q : δ → Hp → Prop} {k : D → Store → R γ} (rel : Rel K w σ H ρ η) (h : Post K rep w H Q (fun c d H' => W c d σ H') ((fa ρ η).bind k)) :
    rdE K W fa σ H fun v H1 => ∃ w1 d η1, Ext w H w1 H1 ∧ Rel K w1 σ H1 ρ η1 ∧ RepV K w1 H1 v d ∧ Post K rep w1 H1 Q (fun c d H' => W c d σ H') (k d η1) :=
  ⟨w, ρ, η, rel, (Post.bind (rep := RepV K) h).imp fun v H1 ⟨w1, d, η1, e, hr, rv, p⟩ => ⟨w1, d, η1, e, ⟨rel.env.ext e, hr⟩, rv, p⟩⟩
theorem rdT_then {rep : Rp γ δ} {Q : δ → Hp → Prop} {ft : FT} {k : Bool → Store → R γ} (rel : Rel K w σ H ρ η) (h : Post K rep w H Q (fun c d H' => W c d σ H') ((ft ρ η).bind k)) :
    rdT K W ft σ H fun b H1 => ∃ w1 η1, Ext w H w1 H1 ∧ Rel K w1 σ H1 ρ η1 ∧ Post K rep w1 H1 Q (fun c d H' => W c d σ H') (k b η1) :=
  ⟨w, ρ, η, rel, (Post.bind (rep := fun _ _ (b c : Bool) => b = c) h).imp fun v H1 ⟨w1, d, η1, e, hr, rv, p⟩ => ⟨w1, η1, e, ⟨rel.env.ext e, hr⟩, by subst rv; exact p⟩⟩
theorem rdA_then {rep : Rp γ δ} {Q : δ → Hp → Prop} {fA : FA} {k : List D → Store → R γ} (rel : Rel K w σ H ρ η) (h : Post K rep w H Q (fun c d H' => W c d σ H') ((fA ρ η).bind k)) :
    rdA K W fA σ H fun vs H1 => ∃ w1 ds η1, Ext w H w1 H1 ∧ Rel K w1 σ H1 ρ η1 ∧ RepVs K w1 H1 vs ds ∧ Post K rep w1 H1 Q (fun c d H' => W c d σ H') (k ds η1) :=
  ⟨w, ρ, η, rel, (Post.bind (rep := RepVs K) h).imp fun v H1 ⟨w1, d, η1, e, hr, rv, p⟩ => ⟨w1, d, η1, e, ⟨rel.env.ext e, hr⟩, rv, p⟩⟩

/-! ### names, constants -/
def gv (i : Nat) : FE := fun ρ η => match ρ[i]? with
  | some (some d) => .ok d η
  | _ => .no
theorem de_v (i : Nat) {x : Str} (hN : X.N[i]? = some x := by rfl) (hv : Vis X.env.scope x := by first | exact Or.inl rfl | exact Or.inr (Or.inl rfl) | exact Or.inr (Or.inr rfl))
    (hd : (x == ("__debug__" : Str)) = false := by decide) (hcd : (x == ("__classdict__" : Str)) = false := by decide) : DE X W (.Name x pos) (gv i) :=
  PE.imp (pe_var hN hv hd hcd) fun σ H Q ⟨w, ρ, η, rel, p⟩ => by
    unfold gv at p
    split at p
    · rename_i d e
      obtain ⟨v, e1, r⟩ := rel.env.at_ i d e
      exact ⟨v, e1, p v w H .refl rel.heap r⟩
    · exact p.elim
def cst (d : D) : FE := fun _ η => .ok d η
theorem de_cst {t : TE} {v : V} {d : D} (h : PE X e t) (m : ∀ σ H (Q : VK), Q v H → t σ H Q) (r : ∀ w H, RepV X.K w H v d) : DE X W e (cst d) :=
  PE.imp h fun σ H Q ⟨w, ρ, η, rel, p⟩ => m σ H Q (p v w H .refl rel.heap (r w H))
theorem de_int {i j} : DE X W (.Constant (.int i) j pos) (cst (.int i)) := de_cst pe_int (fun _ _ _ h => h) fun _ _ => .int i
theorem de_str {x j} : DE X W (.Constant (.str x) j pos) (cst (.str x)) := de_cst pe_str (fun _ _ _ h => h) fun _ _ => .str x
theorem de_bl {b j} : DE X W (.Constant (.bool b) j pos) (cst (.bl b)) := de_cst pe_bl (fun _ _ _ h => h) fun _ _ => .bl b
theorem de_non {j} : DE X W (.Constant .none j pos) (cst .non) := de_cst pe_non (fun _ _ _ h => h) fun _ _ => .non
/-- a module's int -/
theorem de_gint {x : Str} {i : Int} (hm : ∃ t, X.mg x = some (.int i t)) (hg : Gl X x := by rfl) (hd : (x == ("__debug__" : Str)) = false := by decide) : DE X W (.Name x pos) (cst (.int i)) := by
  obtain ⟨t, hm⟩ := hm
  exact de_cst (pe_glob hg hm (v := .int i) ⟨t, rfl⟩ hd) (fun _ _ _ h => h) fun _ _ => .int i
theorem de_gstr {x z : Str} (hm : ∃ t, X.mg x = some (.str z t)) (hg : Gl X x := by rfl) (hd : (x == ("__debug__" : Str)) = false := by decide) : DE X W (.Name x pos) (cst (.str z)) := by
  obtain ⟨t, hm⟩ := hm
  exact de_cst (pe_glob hg hm (v := .str z) ⟨t, rfl⟩ hd) (fun _ _ _ h => h) fun _ _ => .str z
/-- a module's def, class -/
theorem de_gl {x : Str} (hm : X.mg x = some (.ref (He.ga X.K x))) (hg : Gl X x := by rfl) (hd : (x == ("__debug__" : Str)) = false := by decide) : DE X W (.Name x pos) (cst (.gl x)) :=
  de_cst (pe_glob hg hm (v := .ref (He.ga X.K x)) rfl hd) (fun _ _ _ h => h) fun _ _ => .gl x
/-- a built-in type as a value -/
theorem de_ty {x : Str} {n : String} (hm : X.mg x = none) (hv : bootBuiltins x = some (.type n)) (hg : Gl X x := by rfl) (hn : x ≠ "__name__" := by decide) (hd : (x == ("__debug__" : Str)) = false := by decide) : DE X W (.Name x pos) (cst (.ty n)) :=
  de_cst (pe_bltn hg hm hv (v := .ty n) rfl hn hd) (fun _ _ _ h => h) fun _ _ => .ty n

/-! ### operations on values -/
abbrev G1 := D → Store → Option (D × Store)
abbrev G2 := D → D → Store → Option (D × Store)
abbrev GL := List D → Store → Option (D × Store)
def rd1 (K : PySem.W.Frag) (g : G1) : V → Hp → VK → Prop := fun x H Q => ∃ w η d, HeapRel K w H η ∧ RepV K w H x d ∧ Post K (RepV K) w H Q (fun _ _ _ => False) (liftO (g d η))
def rd2 (K : PySem.W.Frag) (g : G2) : R2 := fun x y H Q => ∃ w η d1 d2, HeapRel K w H η ∧ RepV K w H x d1 ∧ RepV K w H y d2 ∧ Post K (RepV K) w H Q (fun _ _ _ => False) (liftO (g d1 d2 η))
def rdL (K : PySem.W.Frag) (g : GL) : List V → Hp → VK → Prop := fun xs H Q => ∃ w η ds, HeapRel K w H η ∧ RepVs K w H xs ds ∧ Post K (RepV K) w H Q (fun _ _ _ => False) (liftO (g ds η))
def rdM (K : PySem.W.Frag) (g : D → GL) : V → List V → Hp → VK → Prop := fun x xs H Q => ∃ w η d ds, HeapRel K w H η ∧ RepV K w H x d ∧ RepVs K w H xs ds ∧ Post K (RepV K) w H Q (fun _ _ _ => False) (liftO (g d ds η))
def e1 (g : G1) (fa : FE) : FE := fun ρ η => (fa ρ η).bind fun x η => liftO (g x η)
def e2 (g : G2) (fa fb : FE) : FE := fun ρ η => (fa ρ η).bind fun x η => (fb ρ η).bind fun y η => liftO (g x y η)
def eL (g : GL) (fA : FA) : FE := fun ρ η => (fA ρ η).bind fun xs η => liftO (g xs η)
def eM (g : D → GL) (fa : FE) (fA : FA) : FE := fun ρ η => (fa ρ η).bind fun x η => (fA ρ η).bind fun xs η => liftO (g x xs η)
theorem e1_reads {g : G1} {Q : VK} (h : rdE K W (e1 g fa) σ H Q) : tUn (rd1 K g) (rdE K W fa) σ H Q := by
  obtain ⟨w, ρ, η, rel, p⟩ := h
  exact (rdE_then rel p).imp fun v H1 ⟨w1, d, η1, e, rel1, rv, p1⟩ => ⟨w1, η1, d, rel1.heap, rv, p1.lift⟩
theorem e2_reads {g : G2} {Q : VK} (h : rdE K W (e2 g fa fb) σ H Q) : tOp (rd2 K g) (rdE K W fa) (rdE K W fb) σ H Q := by
  obtain ⟨w, ρ, η, rel, p⟩ := h
  refine (rdE_then rel p).imp fun v H1 ⟨w1, d, η1, e, rel1, rv, p1⟩ => ?_
  exact (rdE_then rel1 p1).imp fun u H2 ⟨w2, d2, η2, e2, rel2, rv2, p2⟩ => ⟨w2, η2, d, d2, rel2.heap, rv.ext e2, rv2, p2.lift⟩
theorem eL_reads {g : GL} {fA : FA} {Q : VK} (h : rdE K W (eL g fA) σ H Q) : tCB (rdL K g) (rdA K W fA) σ H Q := by
  obtain ⟨w, ρ, η, rel, p⟩ := h
  obtain ⟨w, ρ, η, rel, q⟩ := rdA_then rel p
  exact ⟨w, ρ, η, rel, q.imp fun v H1 ⟨w1, d, η1, e, rel1, rv, p1⟩ => ⟨w1, η1, d, rel1.heap, rv, p1.lift⟩⟩
theorem de_un {op : UnaryOp} {g : G1} (ho : UnR X (unaryOp op) (rd1 X.K g)) (ha : DE X W a fa) : DE X W (.UnaryOp op a pos) (e1 g fa) := PE.imp (pe_un ho ha) fun _ _ _ => e1_reads
theorem de_op {op : Operator} {g : G2} (ho : OpR X (binaryOp op) (rd2 X.K g)) (ha : DE X W a fa) (hb : DE X W b fb) : DE X W (.BinOp a op b pos) (e2 g fa fb) := PE.imp (pe_op ho ha hb) fun _ _ _ => e2_reads
theorem de_cmp {op : CmpOp} {g : G2} (ho : OpR X (compareOp op) (rd2 X.K g)) (ha : DE X W a fa) (hb : DE X W b fb) (hm : behindInMarks op b = false := by first | exact nomark _ | rfl) : DE X W (.Compare a [op] [b] pos) (e2 g fa fb) :=
  PE.imp (pe_cmpR ho ha hb hm) fun _ _ _ => e2_reads
def chn (g g' : G2) (fa fb fc : FE) : FE := fun ρ η => (fa ρ η).bind fun x η => (fb ρ η).bind fun y η => (liftO (g x y η)).bind fun z η => match z with
  | .bl true => (fc ρ η).bind fun u η => liftO (g' y u η)
  | .bl false => .ok (.bl false) η
  | _ => .no
theorem de_chain {op op' : CmpOp} {g g' : G2} (ho : OpR X (compareOp op) (rd2 X.K g)) (ho' : OpR X (compareOp op') (rd2 X.K g')) (ha : DE X W a fa) (hb : DE X W b fb) (hc : DE X W c fc)
    (hm : lastMarks [op, op'] [b, c] = false := by with_unfolding_all rfl) : DE X W (.Compare a [op, op'] [b, c] pos) (chn g g' fa fb fc) :=
  PE.imp (pe_chain ho ho' ha hb hc hm) fun σ H Q ⟨w, ρ, η, rel, p⟩ => by
    refine (rdE_then rel p).imp fun v H1 ⟨w1, d, η1, e, rel1, rv, p1⟩ => ?_
    refine (rdE_then rel1 p1).imp fun u H2 ⟨w2, d2, η2, e2, rel2, rv2, p2⟩ => ?_
    refine ⟨w2, η2, d, d2, rel2.heap, rv.ext e2, rv2, ((Post.bind (rep := RepV X.K) p2).imp fun z H3 ⟨w3, dz, η3, e3, hr3, rz, p3⟩ => ?_).lift⟩
    have rel3 : Rel X.K w3 σ H3 ρ η3 := ⟨rel2.env.ext e3, hr3⟩
    cases rz with
    | bl k =>
      cases k with
      | true =>
        refine ⟨true, rfl, iteT ?_⟩
        exact (rdE_then rel3 p3).imp fun t H4 ⟨w4, d4, η4, e4, rel4, rv4, p4⟩ => ⟨w4, η4, d2, d4, rel4.heap, (rv2.ext e3).ext e4, rv4, p4.lift⟩
      | false => exact ⟨false, rfl, iteF (p3 _ _ _ .refl hr3 (.bl false))⟩
    | _ => exact p3.elim

/-! ### truth -/
def truD : D → Store → Option Bool
  | .non, _ => some false
  | .bl b, _ => some b
  | .int i, _ => some (i != 0)
  | .str x, _ => if x.length ≤ sizeLine then some ((x.length : Int) != 0) else none
  | .tup xs, _ => some (!xs.isEmpty)
  | .lst xs, _ => some (!xs.isEmpty)
  | .scr xs, _ => some (!xs.isEmpty)
  | .obj i, η => match η[i]? with
    | some (.lst xs) => some (!xs.isEmpty)
    | some (.dK kvs) => some (!kvs.isEmpty)
    | _ => none
  | _, _ => none
theorem isE {α β : Type} {xs : List α} {ys : List β} (h : xs.length = ys.length) : xs.isEmpty = ys.isEmpty := by
  cases xs <;> cases ys <;> simp_all
theorem truD_ok {v : V} {d : D} {k : Bool} (hr : HeapRel K w H η) (rv : RepV K w H v d) (h : truD d η = some k) : TruV K v H k := by
  cases rv with
  | non => cases h; rfl
  | bl b => cases h; rfl
  | int i => cases h; rfl
  | str x =>
    dsimp only [truD] at h
    split at h
    · rename_i hl; cases h; exact ⟨hl, rfl⟩
    · cases h
  | tup s r => cases h; exact .inr (.inl ⟨_, s.sq, by rw [isE r.length]⟩)
  | lst s r => cases h; exact .inl ⟨_, s.sq, by rw [isE r.length]⟩
  | scr s r => cases h; exact .inl ⟨_, s.sq, by rw [isE r.length]⟩
  | obj ha =>
    rename_i i a
    dsimp only [truD] at h
    split at h
    · rename_i xs eo
      cases h
      obtain ⟨ys, e, r⟩ := hr.at_ _ _ _ ha eo
      exact .inl ⟨_, SqL.of e, by rw [isE r.length]⟩
    · rename_i kvs eo
      cases h
      obtain ⟨ys, e, r⟩ := hr.at_ _ _ _ ha eo
      refine .inr (.inr ⟨_, e, ?_⟩)
      have : ys.length = kvs.length := by simpa using congrArg List.length r.1
      rw [isE this]
    · cases h
  | gl x => cases h
  | ty n => cases h
  | adr a => cases h
def tru (f : FE) : FT := fun ρ η => (f ρ η).bind fun d η => match truD d η with
  | some b => .ok b η
  | none => .no
/-- a value's truth as a test -/
theorem dt_tru (ha : DE X W a fa) (he : ∀ whole, isTrue a X.env whole = (do let v ← whole; standAt a.pos; holding [v] (truthy v)) := by intro _; rfl) : DT X W a (tru fa) :=
  PT.imp (pt_truth ha he) fun σ H Q ⟨w, ρ, η, rel, p⟩ => by
    refine (rdE_then rel p).imp fun v H1 ⟨w1, d, η1, e, rel1, rv, p1⟩ => ?_
    split at p1
    · rename_i k ek
      exact ⟨k, truD_ok rel1.heap rv ek, p1 k w1 H1 .refl rel1.heap rfl⟩
    · exact p1.elim
/-- a comparison as a test -/
def tst (f : FE) : FT := fun ρ η => (f ρ η).bind fun d η => match d with
  | .bl b => .ok b η
  | _ => .no
theorem tst_reads {Q : Bool → Hp → Prop} {t : TE} (h : rdT K W (tst f) σ H Q) (m : ∀ Q, rdE K W f σ H Q → t σ H Q) : tTest t σ H Q := by
  obtain ⟨w, ρ, η, rel, p⟩ := h
  refine m _ ((rdE_then rel p).imp fun v H1 ⟨w1, d, η1, e, rel1, rv, p1⟩ => ?_)
  cases rv with
  | bl k => exact ⟨k, rfl, p1 k w1 H1 .refl rel1.heap rfl⟩
  | _ => exact p1.elim
theorem dt_cmp {op : CmpOp} {g : G2} (ho : OpR X (compareOp op) (rd2 X.K g)) (ha : DE X W a fa) (hb : DE X W b fb) (hm : behindInMarks op b = false := by first | exact nomark _ | rfl) : DT X W (.Compare a [op] [b] pos) (tst (e2 g fa fb)) :=
  PT.imp (pt_cmpR ho ha hb hm) fun _ _ _ h => tst_reads h fun _ => e2_reads
theorem dt_chain {op op' : CmpOp} {g g' : G2} (ho : OpR X (compareOp op) (rd2 X.K g)) (ho' : OpR X (compareOp op') (rd2 X.K g')) (ha : DE X W a fa) (hb : DE X W b fb) (hc : DE X W c fc)
    (hm : lastMarks [op, op'] [b, c] = false := by with_unfolding_all rfl) : DT X W (.Compare a [op, op'] [b, c] pos) (tst (chn g g' fa fb fc)) :=
  PT.imp (pt_chain ho ho' ha hb hc hm) fun _ _ _ h => tst_reads h fun Q hq => by
    obtain ⟨w, ρ, η, rel, p⟩ := hq
    refine (rdE_then rel p).imp fun v H1 ⟨w1, d, η1, e, rel1, rv, p1⟩ => ?_
    refine (rdE_then rel1 p1).imp fun u H2 ⟨w2, d2, η2, e2, rel2, rv2, p2⟩ => ?_
    refine ⟨w2, η2, d, d2, rel2.heap, rv.ext e2, rv2, ((Post.bind (rep := RepV X.K) p2).imp fun z H3 ⟨w3, dz, η3, e3, hr3, rz, p3⟩ => ?_).lift⟩
    have rel3 : Rel X.K w3 _ H3 ρ η3 := ⟨rel2.env.ext e3, hr3⟩
    cases rz with
    | bl k =>
      cases k with
      | true =>
        refine ⟨true, rfl, iteT ?_⟩
        exact (rdE_then rel3 p3).imp fun t H4 ⟨w4, d4, η4, e4, rel4, rv4, p4⟩ => ⟨w4, η4, d2, d4, rel4.heap, (rv2.ext e3).ext e4, rv4, p4.lift⟩
      | false => exact ⟨false, rfl, iteF (p3 _ _ _ .refl hr3 (.bl false))⟩
    | _ => exact p3.elim
/-! ### and, or, not -/
def andT (s t : FT) : FT := fun ρ η => (s ρ η).bind fun b η => if b = true then t ρ η else .ok false η
def orT (s t : FT) : FT := fun ρ η => (s ρ η).bind fun b η => if b = true then .ok true η else t ρ η
def notT (s : FT) : FT := fun ρ η => (s ρ η).bind fun b η => .ok (!b) η
variable {s t : FT} {rest : List Expr}
theorem dw_and1 (ha : DT X W a s) : DW X W (.BoolOp .And [a] pos) s := pw_and1 ha
theorem dw_or1 (ha : DT X W a s) : DW X W (.BoolOp .Or [a] pos) s := pw_or1 ha
theorem dw_and (ha : DT X W a s) (hb : DW X W (.BoolOp .And (b :: rest) pos) t) : DW X W (.BoolOp .And (a :: b :: rest) pos) (andT s t) :=
  PW.imp (pw_and ha hb) fun σ H Q ⟨w, ρ, η, rel, p⟩ => by
    obtain ⟨w, ρ, η, rel, q⟩ := rdT_then rel p
    refine ⟨w, ρ, η, rel, q.imp fun c H1 ⟨w1, η1, e, rel1, p1⟩ => ?_⟩
    cases c with
    | true => exact iteT ⟨w1, _, η1, rel1, p1⟩
    | false => exact iteF (p1 _ w1 H1 .refl rel1.heap rfl)
theorem dw_or (ha : DT X W a s) (hb : DW X W (.BoolOp .Or (b :: rest) pos) t) : DW X W (.BoolOp .Or (a :: b :: rest) pos) (orT s t) :=
  PW.imp (pw_or ha hb) fun σ H Q ⟨w, ρ, η, rel, p⟩ => by
    obtain ⟨w, ρ, η, rel, q⟩ := rdT_then rel p
    refine ⟨w, ρ, η, rel, q.imp fun c H1 ⟨w1, η1, e, rel1, p1⟩ => ?_⟩
    cases c with
    | false => exact iteF ⟨w1, _, η1, rel1, p1⟩
    | true => exact iteT (p1 _ w1 H1 .refl rel1.heap rfl)
theorem dt_w (h : DW X W a s) : DT X W a s := h.pt
theorem dt_not (ha : DT X W a s) : DT X W (.UnaryOp .Not a pos) (notT s) :=
  PT.imp (pt_not ha) fun σ H Q ⟨w, ρ, η, rel, p⟩ => by
    obtain ⟨w, ρ, η, rel, q⟩ := rdT_then rel p
    exact ⟨w, ρ, η, rel, q.imp fun c H1 ⟨w1, η1, e, rel1, p1⟩ => p1 _ w1 H1 .refl rel1.heap rfl⟩
/-- as values, by truth -/
def andE (fa fb : FE) : FE := fun ρ η => (fa ρ η).bind fun d η => match truD d η with
  | some true => fb ρ η
  | some false => .ok d η
  | none => .no
def orE (fa fb : FE) : FE := fun ρ η => (fa ρ η).bind fun d η => match truD d η with
  | some true => .ok d η
  | some false => fb ρ η
  | none => .no
def notE (fa : FE) : FE := fun ρ η => (fa ρ η).bind fun d η => match truD d η with
  | some b => .ok (.bl (!b)) η
  | none => .no
theorem de_one {op} (h : DE X W a fa) : DE X W (.BoolOp op [a] pos) fa := pe_one h
theorem de_and (ha : DE X W a fa) (hb : DE X W (.BoolOp .And (b :: rest) pos) fb) : DE X W (.BoolOp .And (a :: b :: rest) pos) (andE fa fb) :=
  PE.imp (pe_andT ha hb) fun σ H Q ⟨w, ρ, η, rel, p⟩ => by
    refine (rdE_then rel p).imp fun v H1 ⟨w1, d, η1, e, rel1, rv, p1⟩ => ?_
    split at p1
    · rename_i ek; exact ⟨true, truD_ok rel1.heap rv ek, iteT ⟨w1, _, η1, rel1, p1⟩⟩
    · rename_i ek; exact ⟨false, truD_ok rel1.heap rv ek, iteF (p1 v w1 H1 .refl rel1.heap rv)⟩
    · exact p1.elim
theorem de_or (ha : DE X W a fa) (hb : DE X W (.BoolOp .Or (b :: rest) pos) fb) : DE X W (.BoolOp .Or (a :: b :: rest) pos) (orE fa fb) :=
  PE.imp (pe_orT ha hb) fun σ H Q ⟨w, ρ, η, rel, p⟩ => by
    refine (rdE_then rel p).imp fun v H1 ⟨w1, d, η1, e, rel1, rv, p1⟩ => ?_
    split at p1
    · rename_i ek; exact ⟨true, truD_ok rel1.heap rv ek, iteT (p1 v w1 H1 .refl rel1.heap rv)⟩
    · rename_i ek; exact ⟨false, truD_ok rel1.heap rv ek, iteF ⟨w1, _, η1, rel1, p1⟩⟩
    · exact p1.elim
theorem de_not (ha : DE X W a fa) : DE X W (.UnaryOp .Not a pos) (notE fa) :=
  PE.imp (pe_notT ha) fun σ H Q ⟨w, ρ, η, rel, p⟩ => by
    refine (rdE_then rel p).imp fun v H1 ⟨w1, d, η1, e, rel1, rv, p1⟩ => ?_
    split at p1
    · rename_i k ek; exact ⟨k, truD_ok rel1.heap rv ek, p1 _ w1 H1 .refl rel1.heap (.bl _)⟩
    · exact p1.elim
def ifE (s : FT) (fa fb : FE) : FE := fun ρ η => (s ρ η).bind fun b η => if b = true then fa ρ η else fb ρ η
theorem de_if (hc : DT X W c s) (ha : DE X W a fa) (hb : DE X W b fb) : DE X W (.IfExp c a b pos) (ifE s fa fb) :=
  PE.imp (pe_ifExp hc ha hb) fun σ H Q ⟨w, ρ, η, rel, p⟩ => by
    obtain ⟨w, ρ, η, rel, q⟩ := rdT_then rel p
    refine ⟨w, ρ, η, rel, q.imp fun c H1 ⟨w1, η1, e, rel1, p1⟩ => ?_⟩
    cases c with
    | true => exact iteT ⟨w1, _, η1, rel1, p1⟩
    | false => exact iteF ⟨w1, _, η1, rel1, p1⟩

/-! ### arguments, displays -/
def aNil : FA := fun _ η => .ok [] η
def aCons (f : FE) (g : FA) : FA := fun ρ η => (f ρ η).bind fun d η => (g ρ η).bind fun ds η => .ok (d :: ds) η
variable {fA : FA}
theorem da_nil : DA X W [] aNil := PA.imp pa_nil fun σ H Q ⟨w, ρ, η, rel, p⟩ => p [] w H .refl rel.heap .nil
theorem da_cons (ha : DE X W e f) (hr : DA X W es fA) (hs : starEach (e :: es) X.env = (false, eval e X.env) :: starEach es X.env := by rfl) : DA X W (e :: es) (aCons f fA) :=
  PA.imp (pa_cons ha hr hs) fun σ H Q ⟨w, ρ, η, rel, p⟩ => by
    refine (rdE_then rel p).imp fun v H1 ⟨w1, d, η1, e, rel1, rv, p1⟩ => ?_
    obtain ⟨w2, ρ2, η2, rel2, q⟩ := rdA_then rel1 p1
    exact ⟨w2, ρ2, η2, rel2, q.imp fun vs H2 ⟨w3, ds, η3, e3, rel3, rvs, p3⟩ => p3 _ w3 H2 .refl rel3.heap (.cons (rv.ext e3) rvs)⟩
/-- a tuple -/
def mkT (fA : FA) : FE := fun ρ η => (fA ρ η).bind fun ds η => if ds.length ≤ sizeLine then .ok (.tup ds) η else .no
/-- a list that is never changed -/
def mkL (fA : FA) : FE := fun ρ η => (fA ρ η).bind fun ds η => if ds.length ≤ sizeLine then .ok (.lst ds) η else .no
/-- a list that may change -/
def mkO (fA : FA) : FE := fun ρ η => (fA ρ η).bind fun ds η => if ds.length ≤ sizeLine then .ok (.obj η.length) (η ++ [.lst ds]) else .no
theorem RepV.newT {xs : List V} {ds : List D} (hr : HeapRel K w H η) (r : RepVs K w H xs ds) {q : Addr} (hp : H q = none) : RepV K w (upd H q (.tup xs)) (.ref q) (.tup ds) :=
  .tup (StT.of_new hr hp) (r.ext (Ext.laid hp hr))
theorem RepV.newL {xs : List V} {ds : List D} (hr : HeapRel K w H η) (r : RepVs K w H xs ds) {q : Addr} (hp : H q = none) : RepV K w (upd H q (.lst xs)) (.ref q) (.lst ds) :=
  .lst (StL.of_new hr hp) (r.ext (Ext.laid hp hr))
theorem HeapRel.newO {xs : List V} {ds : List D} (hr : HeapRel K w H η) (r : RepVs K w H xs ds) {q : Addr} (hp : H q = none) : HeapRel K (w.more q) (upd H q (.lst xs)) (η ++ [.lst ds]) :=
  hr.more hp ⟨xs, upd_same, r.ext (Ext.more hp hr)⟩
theorem HeapRel.ixO (hr : HeapRel K w H η) (q : Addr) : (w.more q).io[η.length]? = some q := by
  show (w.io ++ [q])[η.length]? = some q
  rw [← hr.len, List.getElem?_append_right (Nat.le_refl _)]
  simp
theorem de_tup {k} (h : DA X W es fA) : DE X W (.Tuple es k pos) (mkT fA) :=
  PE.imp (pe_tup h) fun σ H Q ⟨w, ρ, η, rel, p⟩ => by
    obtain ⟨w, ρ, η, rel, q⟩ := rdA_then rel p
    refine ⟨w, ρ, η, rel, q.imp fun xs H1 ⟨w1, ds, η1, e, rel1, rv, p1⟩ => ?_⟩
    split at p1
    · rename_i hl
      exact ⟨by rw [rv.length]; exact hl, fun q hq => p1 _ w1 _ (Ext.laid hq rel1.heap) (rel1.heap.laid hq) (.newT rel1.heap rv hq)⟩
    · exact p1.elim
theorem de_lst (h : DA X W es fA) : DE X W (.List es pos) (mkL fA) :=
  PE.imp (pe_lst h) fun σ H Q ⟨w, ρ, η, rel, p⟩ => by
    obtain ⟨w, ρ, η, rel, q⟩ := rdA_then rel p
    refine ⟨w, ρ, η, rel, q.imp fun xs H1 ⟨w1, ds, η1, e, rel1, rv, p1⟩ => ?_⟩
    split at p1
    · rename_i hl
      exact ⟨by rw [rv.length]; exact hl, fun q hq => p1 _ w1 _ (Ext.laid hq rel1.heap) (rel1.heap.laid hq) (.newL rel1.heap rv hq)⟩
    · exact p1.elim
theorem de_lstO (h : DA X W es fA) : DE X W (.List es pos) (mkO fA) :=
  PE.imp (pe_lst h) fun σ H Q ⟨w, ρ, η, rel, p⟩ => by
    obtain ⟨w, ρ, η, rel, q⟩ := rdA_then rel p
    refine ⟨w, ρ, η, rel, q.imp fun xs H1 ⟨w1, ds, η1, e, rel1, rv, p1⟩ => ?_⟩
    split at p1
    · rename_i hl
      exact ⟨by rw [rv.length]; exact hl, fun q hq => p1 _ _ _ (Ext.more hq rel1.heap) (rel1.heap.newO rv hq) (.obj (rel1.heap.ixO q))⟩
    · exact p1.elim

/-! ### built-in calls, subscripts -/
theorem de_callB {x : Str} {id : String} {g : GL} (hc : CallR X (.builtin id) (rdL X.K g)) (hm : X.mg x = none) (hv : bootBuiltins x = some (.builtin id)) (ha : DA X W (e :: es) fA) (hg : Gl X x := by rfl) (hn : x ≠ "__name__" := by decide) (hdb : (x == ("__debug__" : Str)) = false := by decide)
    (he : starEach (e :: es) X.env = (false, eval e X.env) :: starEach es X.env := by rfl) (hpl : (backTo pos (starEach es X.env)).any (·.1) = false := by rfl) : DE X W (.Call (.Name x p) (e :: es) [] pos) (eL g fA) :=
  PE.imp (pe_callB hc hg hm hv ha hn hdb he hpl) fun _ _ _ => eL_reads
theorem de_callTy {x : Str} {T : String} {g : GL} (hc : CallR X (.type T) (rdL X.K g)) (hm : X.mg x = none) (hv : bootBuiltins x = some (.type T)) (ha : DA X W (e :: es) fA) (hg : Gl X x := by rfl) (hn : x ≠ "__name__" := by decide) (hdb : (x == ("__debug__" : Str)) = false := by decide)
    (he : starEach (e :: es) X.env = (false, eval e X.env) :: starEach es X.env := by rfl) (hpl : (backTo pos (starEach es X.env)).any (·.1) = false := by rfl) : DE X W (.Call (.Name x p) (e :: es) [] pos) (eL g fA) :=
  PE.imp (pe_callTy hc hg hm hv ha hn hdb he hpl) fun _ _ _ => eL_reads
theorem de_ix {g : G2} (hr : IxR X (rd2 X.K g)) (ha : DE X W a fa) (hb : DE X W b fb) (hs : PlainIx b := by intro _ _; rfl) : DE X W (.Subscript a b pos) (e2 g fa fb) := PE.imp (pe_ix hr ha hb hs) fun _ _ _ => e2_reads
/-- a[lo:hi] -/
abbrev GS := D → Option Int → Option Int → Store → Option (D × Store)
def rdSl (K : PySem.W.Frag) (g : GS) : V → Option Int → Option Int → Hp → VK → Prop := fun x lo hi H Q => ∃ w η d, HeapRel K w H η ∧ RepV K w H x d ∧ Post K (RepV K) w H Q (fun _ _ _ => False) (liftO (g d lo hi η))
abbrev FO := Env → Store → R (Option Int)
def oNone : FO := fun _ η => .ok none η
def oSome (f : FE) : FO := fun ρ η => (f ρ η).bind fun d η => match d with
  | .int i => .ok (some i) η
  | _ => .no
def rdO (K : PySem.W.Frag) (W : WX) (f : FO) : TO := fun σ H Q => ∃ w ρ η, Rel K w σ H ρ η ∧ Post K (fun _ _ (b c : Option Int) => b = c) w H Q (fun c d H' => W c d σ H') (f ρ η)
abbrev DO (X : Cx) (W : WX) (e : Option Expr) (f : FO) : Prop := PO X e (rdO X.K W f)
theorem PO.imp {e : Option Expr} {t t' : TO} (h : PO X e t) (m : ∀ σ H Q, t' σ H Q → t σ H Q) : PO X e t' := ⟨fun pins s σ H Q I q => h.run pins s σ H Q I (m σ H Q q)⟩
theorem do_none : DO X W none oNone := PO.imp po_none fun σ H Q ⟨w, ρ, η, rel, p⟩ => p none w H .refl rel.heap rfl
theorem do_some (h : DE X W e f) : DO X W (some e) (oSome f) := PO.imp (po_some h) fun σ H Q ⟨w, ρ, η, rel, p⟩ => by
  refine (rdE_then rel p).imp fun v H1 ⟨w1, d, η1, e, rel1, rv, p1⟩ => ?_
  cases rv with
  | int i => exact ⟨i, rfl, p1 _ w1 H1 .refl rel1.heap rfl⟩
  | _ => exact p1.elim
def eSl (g : GS) (fa : FE) (fl fh : FO) : FE := fun ρ η => (fa ρ η).bind fun x η => (fl ρ η).bind fun l η => (fh ρ η).bind fun u η => liftO (g x l u η)
theorem rdO_then {rep : Rp γ δ} {Q : δ → Hp → Prop} {fo : FO} {k : Option Int → Store → R γ} (rel : Rel K w σ H ρ η) (h : Post K rep w H Q (fun c d H' => W c d σ H') ((fo ρ η).bind k)) :
    rdO K W fo σ H fun b H1 => ∃ w1 η1, Ext w H w1 H1 ∧ Rel K w1 σ H1 ρ η1 ∧ Post K rep w1 H1 Q (fun c d H' => W c d σ H') (k b η1) :=
  ⟨w, ρ, η, rel, (Post.bind (rep := fun _ _ (b c : Option Int) => b = c) h).imp fun v H1 ⟨w1, d, η1, e, hr, rv, p⟩ => ⟨w1, η1, e, ⟨rel.env.ext e, hr⟩, by subst rv; exact p⟩⟩
theorem rdO.imp {Q Q' : Option Int → Hp → Prop} {fo : FO} (m : ∀ v H, Q v H → Q' v H) (h : rdO K W fo σ H Q) : rdO K W fo σ H Q' :=
  let ⟨w, ρ, η, r, p⟩ := h; ⟨w, ρ, η, r, p.imp m⟩
theorem de_slice {g : GS} {lo hi : Option Expr} {fl fh : FO} {p2 : Pos} (hr : SlR X (rdSl X.K g)) (he : DE X W e f) (hl : DO X W lo fl) (hu : DO X W hi fh) : DE X W (.Subscript e (.Slice lo hi none p2) pos) (eSl g f fl fh) :=
  PE.imp (pe_slice hr he hl hu) fun σ H Q ⟨w, ρ, η, rel, p⟩ => by
    refine (rdE_then rel p).imp fun v H1 ⟨w1, d, η1, e, rel1, rv, p1⟩ => ?_
    refine (rdO_then rel1 p1).imp fun l H2 ⟨w2, η2, e2, rel2, p2⟩ => ?_
    exact (rdO_then rel2 p2).imp fun u H3 ⟨w3, η3, e3, rel3, p3⟩ => ⟨w3, η3, d, rel3.heap, (rv.ext e2).ext e3, p3.lift⟩

/-! ### calls of the text's defs -/
theorem tk0 {X : Cx} : L2N.Takes X (fun _ _ _ _ => False) := fun _ _ x => by
  obtain ⟨_, _, _, _, _, _, _, _, _, _, _, _, _, _, _, _, z⟩ := x
  exact z.elim
abbrev FF := List D → Store → R D
def spD (K : PySem.W.Frag) (n : Nat) (F : FF) : Sp := fun vs H Q E => ∃ w η ds, HeapRel K w H η ∧ RepVs K w H vs ds ∧ ds.length = n ∧ Post K (RepV K) w H Q E (F ds η)
def eCall (n : Nat) (F : FF) (fA : FA) : FE := fun ρ η => (fA ρ η).bind fun ds η => if ds.length = n then F ds η else .no
theorem spD.len {n : Nat} {F : FF} {ps : List Str} (hn : ps.length = n) : ∀ vs H Q E, spD K n F vs H Q E → vs.length = ps.length := fun vs H Q E ⟨w, η, ds, _, r, l, _⟩ => by rw [r.length, l, hn]
/-- a def of the module, called by its name -/
theorem de_call {x : Str} {n k : Nat} {F : FF} {fd : FuncData} {ps : List Str} (tk : L2N.Takes X W) (hr : Room k X.A) (Fo : FnOk X.prog X.w X.K X.mg X.base (L2N.CX X.prog X.w) k (He.ga X.K x) fd ps (spD X.K n F))
    (hm : X.mg x = some (.ref (He.ga X.K x))) (hk : PySem.W.keepIn X.K (.ref (He.ga X.K x)) = true) (hb : Binds X.K fd ps []) (ha : DA X W (e :: es) fA) (hg : Gl X x := by rfl)
    (hdb : (x == ("__debug__" : Str)) = false := by decide) (he : starEach (e :: es) X.env = (false, eval e X.env) :: starEach es X.env := by rfl) (hpl : (backTo pos (starEach es X.env)).any (·.1) = false := by rfl) :
    DE X W (.Call (.Name x p) (e :: es) [] pos) (eCall n F fA) :=
  PE.imp (pe_callS Fo hr hg hm hk hb (fun σ => L2N.passAt tk σ) ha hdb he hpl) fun σ H Q ⟨w, ρ, η, rel, p⟩ => by
    obtain ⟨w, ρ, η, rel, q⟩ := rdA_then rel p
    refine ⟨w, ρ, η, rel, q.imp fun vs H1 ⟨w1, ds, η1, e, rel1, rv, p1⟩ => ?_⟩
    split at p1
    · rename_i hl
      exact ⟨w1, η1, ds, rel1.heap, rv, hl, p1⟩
    · exact p1.elim
end
end Dn
/-! Dn part 3: targets, statements, loops, comprehensions, defs. -/
namespace Dn
open PySem PySem.Spec PyProof.Rows L2
section
variable {α β γ δ : Type} {X : Cx} {W : WX} {K : PySem.W.Frag} {w w1 w' : Wd} {σ : L2.St} {H H1 H' : Hp} {ρ : Env} {η η1 : Store} {fa fb fc f : FE} {a b c e : Expr} {es : List Expr} {pos p : Pos} {s : FT} {fs gs : FS} {st : Stmt} {ss : List Stmt}
/-! ### targets -/
abbrev TGt := D → Env → Option Env
def bN (i : Nat) : TGt := fun d ρ => some (ρ.set i (some d))
def bTs : List TGt → List D → Env → Option Env
  | [], [], ρ => some ρ
  | b :: bs, d :: ds, ρ => match b d ρ with
    | some ρ => bTs bs ds ρ
    | none => none
  | _, _, _ => none
def bT (bs : List TGt) : TGt := fun d ρ => match d with
  | .tup ds => bTs bs ds ρ
  | .lst ds => bTs bs ds ρ
  | _ => none
def rdG (K : PySem.W.Frag) (sl : List Nat) (b : TGt) : TG := fun v σ H Q => ∃ w ρ d ρ', EnvRel K w σ H ρ ∧ RepV K w H v d ∧ b d ρ = some ρ' ∧
  ∀ σ', EnvRel K w σ' H ρ' → σ'.length = σ.length → (∀ j, j ∉ sl → σ'[j]? = σ[j]?) → Q σ' H
def rdGs (K : PySem.W.Frag) (sl : List Nat) (bs : List TGt) : TGs := fun vs σ H Q => ∃ w ρ ds ρ', EnvRel K w σ H ρ ∧ RepVs K w H vs ds ∧ bTs bs ds ρ = some ρ' ∧
  ∀ σ', EnvRel K w σ' H ρ' → σ'.length = σ.length → (∀ j, j ∉ sl → σ'[j]? = σ[j]?) → Q σ' H
abbrev DG (X : Cx) (sl : List Nat) (t : Expr) (b : TGt) : Prop := PG X t (rdG X.K sl b)
abbrev DGs (X : Cx) (sl : List Nat) (ts : List Expr) (bs : List TGt) : Prop := PGs X ts (rdGs X.K sl bs)
theorem PG.imp {e : Expr} {t t' : TG} (h : PG X e t) (m : ∀ v σ H Q, t' v σ H Q → t v σ H Q) : PG X e t' := ⟨fun pins s σ H v u Q I r q => h.run pins s σ H v u Q I r (m v σ H Q q)⟩
theorem PGs.imp {es : List Expr} {t t' : TGs} (h : PGs X es t) (m : ∀ v σ H Q, t' v σ H Q → t v σ H Q) : PGs X es t' := ⟨fun pins s σ H v u Q I r q => h.run pins s σ H v u Q I r (m v σ H Q q)⟩
theorem PG.or {e : Expr} {t t' : TG} (h : PG X e t) (h' : PG X e t') : PG X e (fun v σ H Q => t v σ H Q ∨ t' v σ H Q) := ⟨fun pins s σ H v u Q I r q => q.elim (h.run pins s σ H v u Q I r) (h'.run pins s σ H v u Q I r)⟩
theorem dg_n (i : Nat) {x : Str} (hN : X.N.Nodup) (hi : X.N[i]? = some x := by rfl) (hx : Loc X.env.scope x := by first | exact .inl rfl | exact .inr rfl) (hf : X.fn x = true ∨ X.env.scope.names.lookup x = some .local := by first | exact .inl rfl | exact .inr rfl | assumption) : DG X [i] (.Name x pos) (bN i) :=
  PG.imp (pg_name hN hi hx hf) fun v σ H Q ⟨w, ρ, d, ρ', er, rv, hb, q⟩ => by
    cases hb
    exact q _ (er.set rv) (by simp) fun j hj => List.getElem?_set_ne (by simpa using Ne.symm (show j ≠ i by simpa using hj))
theorem dgs_nil : DGs X [] [] [] := PGs.imp pgs_nil fun vs σ H Q ⟨w, ρ, ds, ρ', er, rv, hb, q⟩ => by
  cases rv with
  | nil => cases hb; exact ⟨rfl, q σ er rfl fun _ _ => rfl⟩
  | cons _ _ => cases hb
theorem dgs_cons {sl sl' : List Nat} {t : Expr} {ts : List Expr} {b : TGt} {bs : List TGt} (h1 : DG X sl t b) (h2 : DGs X sl' ts bs)
    (hs : (assignEach (t :: ts) X.env).map (·.2) = assign t X.env :: (assignEach ts X.env).map (·.2) := by rfl) : DGs X (sl ++ sl') (t :: ts) (b :: bs) :=
  PGs.imp (pgs_cons h1 h2 hs) fun vs σ H Q ⟨w, ρ, ds, ρ', er, rv, hb, q⟩ => by
    cases rv with
    | nil => cases hb
    | cons r rr =>
      dsimp only [bTs] at hb
      split at hb
      · rename_i ρ1 e1
        refine ⟨_, _, rfl, w, ρ, _, ρ1, er, r, e1, fun σ1 er1 l1 f1 => ⟨w, ρ1, _, ρ', er1, rr, hb, fun σ2 er2 l2 f2 => q σ2 er2 (l2.trans l1) fun j hj => ?_⟩⟩
        rw [f2 j fun z => hj (List.mem_append_right _ z), f1 j fun z => hj (List.mem_append_left _ z)]
      · cases hb
theorem dg_t {sl : List Nat} {ts : List Expr} {bs : List TGt} {k n : Nat} (hc : X.calm = true) (h : DGs X sl ts bs) (hn : (assignEach ts X.env).length = n := by rfl) (hl : bs.length = n := by rfl)
    (hst : (assignEach ts X.env).findIdx? (·.1) = none := by rfl) : DG X sl (.Tuple ts k pos) (bT bs) :=
  PG.imp (PG.or (pg_tup hc h hn hst) (pg_lst hc h hn hst)) fun v σ H Q ⟨w, ρ, d, ρ', er, rv, hb, q⟩ => by
    have len : ∀ (bs : List TGt) (ds : List D) (ρ ρ' : Env), bTs bs ds ρ = some ρ' → ds.length = bs.length := by
      intro bs
      induction bs with
      | nil => intro ds ρ ρ' h; cases ds with | nil => rfl | cons _ _ => cases h
      | cons b bs ih =>
        intro ds ρ ρ' h
        cases ds with
        | nil => cases h
        | cons d ds =>
          dsimp only [bTs] at h
          split at h
          · rename_i ρ1 e1; rw [List.length_cons, List.length_cons, ih ds ρ1 ρ' h]
          · cases h
    cases rv with
    | tup hs rr => exact .inl ⟨_, _, rfl, hs.sq, by rw [rr.length, len _ _ _ _ hb, hl], w, ρ, _, ρ', er, rr, hb, q⟩
    | lst hs rr => exact .inr ⟨_, _, rfl, hs.sq, by rw [rr.length, len _ _ _ _ hb, hl], w, ρ, _, ρ', er, rr, hb, q⟩
    | _ => cases hb

/-! ### statements -/
theorem rdS.imp {E E' : Ends} (m1 : ∀ σ H, E.nx σ H → E'.nx σ H) (m2 : ∀ v H, E.rt v H → E'.rt v H) (m3 : ∀ σ H, E.bk σ H → E'.bk σ H) (m4 : ∀ σ H, E.ct σ H → E'.ct σ H) (h : rdS K W fs E σ H) : rdS K W fs E' σ H := by
  obtain ⟨w, ρ, η, rel, p⟩ := h
  refine ⟨w, ρ, η, rel, ?_⟩
  cases e : fs ρ η with
  | nx ρ η => rw [e] at p; exact fun σ w' H' e' r => m1 _ _ (p σ w' H' e' r)
  | brk ρ η => rw [e] at p; exact fun σ w' H' e' r => m3 _ _ (p σ w' H' e' r)
  | cnt ρ η => rw [e] at p; exact fun σ w' H' e' r => m4 _ _ (p σ w' H' e' r)
  | ret d η => rw [e] at p; exact fun v w' H' e' r rv => m2 _ _ (p v w' H' e' r rv)
  | exc x ρ η => rw [e] at p; exact p
  | no => rw [e] at p; exact p
theorem rdE_thenS {E : Ends} {k : D → Store → RS} (rel : Rel K w σ H ρ η) (h : PostS K w H E W ((fa ρ η).bindS ρ k)) :
    rdE K W fa σ H fun v H1 => ∃ w1 d η1, Ext w H w1 H1 ∧ Rel K w1 σ H1 ρ η1 ∧ RepV K w1 H1 v d ∧ PostS K w1 H1 E W (k d η1) :=
  ⟨w, ρ, η, rel, PostS.bind (rep := RepV K) rel.env h⟩
theorem rdT_thenS {E : Ends} {k : Bool → Store → RS} (rel : Rel K w σ H ρ η) (h : PostS K w H E W ((s ρ η).bindS ρ k)) :
    rdT K W s σ H fun b H1 => ∃ w1 η1, Ext w H w1 H1 ∧ Rel K w1 σ H1 ρ η1 ∧ PostS K w1 H1 E W (k b η1) :=
  ⟨w, ρ, η, rel, (PostS.bind (rep := fun _ _ (b c : Bool) => b = c) rel.env h).imp fun b H1 ⟨w1, d, η1, e, r, eb, p⟩ => ⟨w1, η1, e, r, by subst eb; exact p⟩⟩
def sNil : FS := fun ρ η => .nx ρ η
def sSeq (f g : FS) : FS := fun ρ η => match f ρ η with
  | .nx ρ η => g ρ η
  | r => r
theorem dss_nil : DSs X W [] sNil := PSs.imp pss_nil fun E σ H ⟨w, ρ, η, rel, p⟩ => p σ w H .refl rel
theorem seq_reads {E : Ends} (h : rdS K W (sSeq fs gs) E σ H) : tSeq (rdS K W fs) (rdS K W gs) E σ H := by
  obtain ⟨w, ρ, η, rel, p⟩ := h
  refine ⟨w, ρ, η, rel, ?_⟩
  unfold sSeq at p
  cases e : fs ρ η with
  | nx ρ η => rw [e] at p; exact fun σ w' H' e' r => ⟨w', ρ, η, r, PostS.weak e' p⟩
  | brk ρ η => rw [e] at p; exact p
  | cnt ρ η => rw [e] at p; exact p
  | ret d η => rw [e] at p; exact p
  | exc x ρ η => rw [e] at p; exact p
  | no => rw [e] at p; exact p
theorem dss_cons (h1 : DS X W st fs) (h2 : DSs X W ss gs) : DSs X W (st :: ss) (sSeq fs gs) := PSs.imp (pss_cons h1 h2) fun _ _ _ => seq_reads
theorem dss_one (h1 : DS X W st fs) : DSs X W [st] fs := pss_one h1
theorem ds_pass : DS X W (.Pass pos) sNil := PS.imp ps_pass fun E σ H ⟨w, ρ, η, rel, p⟩ => p σ w H .refl rel
def sBrk : FS := fun ρ η => .brk ρ η
def sCnt : FS := fun ρ η => .cnt ρ η
theorem ds_brk : DS X W (.Break pos) sBrk := PS.imp ps_break fun E σ H ⟨w, ρ, η, rel, p⟩ => p σ w H .refl rel
theorem ds_cnt : DS X W (.Continue pos) sCnt := PS.imp ps_continue fun E σ H ⟨w, ρ, η, rel, p⟩ => p σ w H .refl rel
def sExp (f : FE) : FS := fun ρ η => (f ρ η).bindS ρ fun _ η => .nx ρ η
theorem ds_exp (he : DE X W e f) (hs : swapsWith e none pos.line X.env = pure false := by rfl) : DS X W (.Expr e pos) (sExp f) :=
  PS.imp (ps_expr he hs) fun E σ H ⟨w, ρ, η, rel, p⟩ => (rdE_thenS rel p).imp fun v H1 ⟨w1, d, η1, e, rel1, rv, p1⟩ => p1 σ w1 H1 .refl rel1
def sRet (f : FE) : FS := fun ρ η => (f ρ η).bindS ρ fun d η => .ret d η
theorem ds_ret (he : DE X W e f) : DS X W (.Return (some e) pos) (sRet f) :=
  PS.imp (ps_ret he) fun E σ H ⟨w, ρ, η, rel, p⟩ => (rdE_thenS rel p).imp fun v H1 ⟨w1, d, η1, e, rel1, rv, p1⟩ => p1 v w1 H1 .refl rel1.heap rv
def sRetN : FS := fun ρ η => .ret .non η
theorem ds_retN : DS X W (.Return none pos) sRetN := PS.imp ps_retN fun E σ H ⟨w, ρ, η, rel, p⟩ => p .non w H .refl rel.heap .non
def sIf (c : FT) (f g : FS) : FS := fun ρ η => (c ρ η).bindS ρ fun b η => if b = true then f ρ η else g ρ η
theorem ds_if {a b : List Stmt} (hc : DT X W c s) (ha : DSs X W a fs) (hb : DSs X W b gs) : DS X W (.If c a b pos) (sIf s fs gs) :=
  PS.imp (ps_if hc ha hb) fun E σ H ⟨w, ρ, η, rel, p⟩ => by
    obtain ⟨w, ρ, η, rel, q⟩ := rdT_thenS rel p
    refine ⟨w, ρ, η, rel, q.imp fun b H1 ⟨w1, η1, e, rel1, p1⟩ => ?_⟩
    cases b with
    | true => exact iteT ⟨w1, _, η1, rel1, p1⟩
    | false => exact iteF ⟨w1, _, η1, rel1, p1⟩
/-- target = e -/
def sAsg (f : FE) (b : TGt) : FS := fun ρ η => (f ρ η).bindS ρ fun d η => match b d ρ with
  | some ρ => .nx ρ η
  | none => .no
theorem asg_reads {E : Ends} {sl : List Nat} {b : TGt} (h : rdS K W (sAsg f b) E σ H) : tAsg (rdE K W f) (rdG K sl b) E σ H := by
  obtain ⟨w, ρ, η, rel, p⟩ := h
  refine (rdE_thenS rel p).imp fun v H1 ⟨w1, d, η1, e, rel1, rv, p1⟩ => ?_
  split at p1
  · rename_i ρ' eb
    exact ⟨w1, ρ, d, ρ', rel1.env, rv, eb, fun σ' er _ _ => p1 σ' w1 H1 .refl ⟨er, rel1.heap⟩⟩
  · exact p1.elim
theorem ds_set (i : Nat) {x : Str} {pos' : Pos} (hN : X.N.Nodup) (he : DE X W e f) (hi : X.N[i]? = some x := by rfl) (hx : Loc X.env.scope x := by first | exact .inl rfl | exact .inr rfl) (hs : swapsWith e (some (.Name x pos')) pos.line X.env = pure false := by rfl)
    (hf : X.fn x = true ∨ X.env.scope.names.lookup x = some .local := by first | exact .inl rfl | exact .inr rfl | assumption) : DS X W (.Assign [.Name x pos'] e pos) (sAsg f (bN i)) :=
  PS.imp (ps_set hN hi hx he hs hf) fun E σ H ⟨w, ρ, η, rel, p⟩ => by
    refine (rdE_thenS rel p).imp fun v H1 ⟨w1, d, η1, e, rel1, rv, p1⟩ => p1 _ w1 H1 .refl ⟨rel1.env.set rv, rel1.heap⟩
theorem ds_asg {tg : Expr} {sl : List Nat} {b : TGt} (hg : DG X sl tg b) (he : DE X W e f) (hs : swapsWithSole [tg] e pos.line X.env = pure false := by rfl) (hw : swappedStores [tg] e X.env = pure none := by rfl)
    (h1 : (assignEach [tg] X.env).map (·.2) = [assign tg X.env] := by rfl) : DS X W (.Assign [tg] e pos) (sAsg f b) :=
  PS.imp (ps_asg he hg hs hw h1) fun _ _ _ => asg_reads
/-- a, b = x, y: two different local names -/
def sPar (i j : Nat) (fa fb : FE) : FS := fun ρ η => (fa ρ η).bindS ρ fun x η => (fb ρ η).bindS ρ fun y η => .nx ((ρ.set i (some x)).set j (some y)) η
theorem ds_par (i j : Nat) {x y : Str} {px py pt : Pos} {kt k2 pt2} (hc : X.calm = true) (hN : X.N.Nodup) (ha : DE X W a fa) (hb : DE X W b fb) (hi : X.N[i]? = some x := by rfl) (hj : X.N[j]? = some y := by rfl) (hij : i ≠ j := by decide)
    (hx : X.env.scope.names.lookup x = some .local := by rfl) (hy : X.env.scope.names.lookup y = some .local := by rfl)
    (hw : swappedStores [.Tuple [.Name x px, .Name y py] kt pt] (.Tuple [a, b] k2 pt2) X.env = pure (some [x, y]) := by rfl)
    (hs : swapsWithSole [.Tuple [.Name x px, .Name y py] kt pt] (.Tuple [a, b] k2 pt2) pos.line X.env = pure false := by rfl)
    (h1 : starEach [a, b] X.env = (false, eval a X.env) :: starEach [b] X.env := by rfl) (h2 : starEach [b] X.env = (false, eval b X.env) :: starEach [] X.env := by rfl) :
    DS X W (.Assign [.Tuple [.Name x px, .Name y py] kt pt] (.Tuple [a, b] k2 pt2) pos) (sPar i j fa fb) :=
  PS.imp (ps_par hc hN hi hj hij hx hy (pa_cons ha (pa_cons hb pa_nil h2) h1) hw hs) fun E σ H ⟨w, ρ, η, rel, p⟩ => by
    refine (rdE_thenS rel p).imp fun v H1 ⟨w1, d, η1, e, rel1, rv, p1⟩ => ?_
    refine (rdE_thenS rel1 p1).imp fun u H2 ⟨w2, d2, η2, e2, rel2, rv2, p2⟩ => ?_
    exact ⟨_, _, rfl, p2 _ w2 H2 .refl ⟨(rel2.env.set (rv.ext e2)).set rv2, rel2.heap⟩⟩
/-- x op= e at a name -/
def sAug (i : Nat) (g : G2) (f : FE) : FS := fun ρ η => match ρ[i]? with
  | some (some x) => (f ρ η).bindS ρ fun y η => (liftO (g x y η)).bindS ρ fun z η => .nx (ρ.set i (some z)) η
  | _ => .no
theorem ds_aug (i : Nat) {x : Str} {op : Operator} {g : G2} {pos' : Pos} (hN : X.N.Nodup) (he : DE X W e f) (ho : OpR X (inplaceOp op) (rd2 X.K g)) (hi : X.N[i]? = some x := by rfl) (hx : Loc X.env.scope x := by first | exact .inl rfl | exact .inr rfl)
    (hf : X.fn x = true ∨ X.env.scope.names.lookup x = some .local := by first | exact .inl rfl | exact .inr rfl | assumption) : DS X W (.AugAssign (.Name x pos') op e pos) (sAug i g f) :=
  PS.imp (ps_aug hN hi hx he (fun pins s σ H x y v u Q I rx ry q => ho pins s σ H x y v u Q I rx ry q) hf) fun E σ H ⟨w, ρ, η, rel, p⟩ => by
    unfold sAug at p
    split at p
    · rename_i d ed
      obtain ⟨v, ev, rv⟩ := rel.env.at_ i d ed
      refine ⟨v, ev, (rdE_thenS rel p).imp fun u H1 ⟨w1, d1, η1, e1, rel1, ru, p1⟩ => ?_⟩
      refine ⟨w1, η1, d, d1, rel1.heap, rv.ext e1, ru, ?_⟩
      refine ((PostS.bind (rep := RepV X.K) rel1.env p1).imp fun z H2 ⟨w2, dz, η2, e2, rel2, rz, p2⟩ => ?_).lift
      exact p2 _ w2 H2 .refl ⟨rel2.env.set rz, rel2.heap⟩
    · exact p.elim

/-! ### what is walked -/
inductive Src where
  | val (xs : List D)
  /-- some (some x): the turn's item; some none: the end -/
  | dyn (f : Nat → Store → Option (Option D))
def Src.at : Src → Nat → Store → Option D
  | .val xs, i, _ => xs[i]?
  | .dyn f, i, η => match f i η with
    | some (some x) => some x
    | _ => none
def Src.fin : Src → Nat → Store → Prop
  | .val xs, i, _ => xs.length = i
  | .dyn f, i, η => f i η = some none
def objAt (k : Nat) : Nat → Store → Option (Option D) := fun i η => match η[k]? with
  | some (.lst xs) => if i ≤ xs.length then some xs[i]? else none
  | _ => none
structure ItOk (K : PySem.W.Frag) (J : It) (src : Src) (w0 : Wd) (H0 : Hp) : Prop where
  go : ∀ i w H η x, Ext w0 H0 w H → HeapRel K w H η → src.at i η = some x → J.go i H ∧ ∀ v H', J.yld i H v H' → Ext w H w H' ∧ HeapRel K w H' η ∧ RepV K w H' v x
  stop : ∀ i w H η, Ext w0 H0 w H → HeapRel K w H η → src.fin i η → J.stop i H
abbrev FI := Env → Store → R Src
def rdI (K : PySem.W.Frag) (W : WX) (f : FI) : TI := fun σ H Q => ∃ w ρ η, Rel K w σ H ρ η ∧ Post K (fun w H J src => ItOk K J src w H) w H Q (fun c d H' => W c d σ H') (f ρ η)
abbrev DI (X : Cx) (W : WX) (tg e : Expr) (f : FI) : Prop := PI X tg e (rdI X.K W f)
theorem PI.imp {tg e : Expr} {t t' : TI} (h : PI X tg e t) (m : ∀ σ H Q, t' σ H Q → t σ H Q) : PI X tg e t' := ⟨fun pins s σ H Q I q => h.run pins s σ H Q I (m σ H Q q)⟩
theorem itOk_tup {a : Addr} {xs : List V} {ds : List D} (hs : ∀ w' H', Ext w H w' H' → SqT K H' a xs) (r : RepVs K w H xs ds) : ItOk K (Itt K a) (.val ds) w H := by
  refine ⟨fun i w1 H1 η x e hr hx => ?_, fun i w1 H1 η e hr hf => ⟨xs, hs _ _ e, by rw [r.length]; exact Nat.le_of_eq hf⟩⟩
  obtain ⟨v, hv, rv⟩ := r.get (show ds[i]? = some x from hx)
  refine ⟨⟨xs, v, hs _ _ e, hv⟩, fun u H2 ⟨eH, hy⟩ => ?_⟩
  subst eH
  have q := hy xs (hs _ _ e)
  rw [hv] at q; cases q
  exact ⟨.refl, hr, rv.ext e⟩
theorem itOk_lst {a : Addr} {xs : List V} {ds : List D} (hs : ∀ w' H', Ext w H w' H' → SqL K H' a xs) (r : RepVs K w H xs ds) : ItOk K (Itl K a) (.val ds) w H := by
  refine ⟨fun i w1 H1 η x e hr hx => ?_, fun i w1 H1 η e hr hf => ⟨xs, hs _ _ e, by rw [r.length]; exact Nat.le_of_eq hf⟩⟩
  obtain ⟨v, hv, rv⟩ := r.get (show ds[i]? = some x from hx)
  refine ⟨⟨xs, v, hs _ _ e, hv⟩, fun u H2 ⟨eH, hy⟩ => ?_⟩
  subst eH
  have q := hy xs (hs _ _ e)
  rw [hv] at q; cases q
  exact ⟨.refl, hr, rv.ext e⟩
theorem itOk_obj {a : Addr} {k : Nat} (ha : w.io[k]? = some a) : ItOk K (Itl K a) (.dyn (objAt k)) w H := by
  refine ⟨fun i w1 H1 η x e hr hx => ?_, fun i w1 H1 η e hr hf => ?_⟩
  · dsimp only [Src.at, objAt] at hx
    cases eo : η[k]? with
    | none => rw [eo] at hx; cases hx
    | some ob =>
      rw [eo] at hx
      cases ob with
      | lst ds =>
        obtain ⟨xs, eH, r⟩ := hr.at_ _ _ _ (e.toMv.get ha) eo
        dsimp only at hx
        split at hx
        case h_2 => cases hx
        rename_i y ed
        split at ed
        case isFalse => cases ed
        replace ed := Option.some.inj ed
        · cases hx
          obtain ⟨v, hv, rv⟩ := r.get ed
          refine ⟨⟨xs, v, SqL.of eH, hv⟩, fun u H2 ⟨eH2, hy⟩ => ?_⟩
          subst eH2
          have q := hy xs (SqL.of eH)
          rw [hv] at q; cases q
          exact ⟨.refl, hr, rv⟩
      | _ => cases hx
  · dsimp only [Src.fin, objAt] at hf
    cases eo : η[k]? with
    | none => rw [eo] at hf; cases hf
    | some ob =>
      rw [eo] at hf
      cases ob with
      | lst ds =>
        obtain ⟨xs, eH, r⟩ := hr.at_ _ _ _ (e.toMv.get ha) eo
        dsimp only at hf
        split at hf
        · exact ⟨xs, SqL.of eH, by rw [r.length]; exact List.getElem?_eq_none_iff.mp (Option.some.inj hf)⟩
        · cases hf
      | _ => cases hf
/-- iter(v) of a list, a tuple, a text, by values -/
theorem iter_list {tg : Expr} {pins : List (Addr × Obj)} {σ : L2.St} {H : Hp} {s : Shared} {R : It → Hp → Prop} {E : Value → Shared → Prop} {a : Addr} {xs : List V} (I : Inv X pins σ H s) (hq : SqL X.K H a xs) (q : R (Itl X.K a) H) :
    wpAny (model X.prog X.w) X.A (pyIter (.ref a)) (PIE X pins σ tg R) E s := by
  obtain ⟨its, rv, p, hz⟩ := I.list hq
  refine wpAny_pyIter_list p.isList ?_
  refine ⟨s.heap.objs.size, [s.heap.objs.size], _, _, H, rfl, I.kept (t' := s.toks) fun b o e => Heap.get?_push_of_some _ e, turn_list a _, ⟨_, Heap.get?_push_size _ rfl, rfl, rfl⟩, fun b hb => ?_, q⟩
  have e : b = s.heap.objs.size := by simpa using hb
  subst e
  exact I.fpOk (Nat.le_refl _) (I.hok.fresh (Nat.le_refl _))
theorem iter_tup {tg : Expr} {pins : List (Addr × Obj)} {σ : L2.St} {H : Hp} {s : Shared} {R : It → Hp → Prop} {E : Value → Shared → Prop} {a : Addr} {xs : List V} (I : Inv X pins σ H s) (hq : SqT X.K H a xs) (q : R (Itt X.K a) H) :
    wpAny (model X.prog X.w) X.A (pyIter (.ref a)) (PIE X pins σ tg R) E s := by
  obtain ⟨its, rv, p, hz⟩ := I.tuple hq
  refine wpAny_pyIter_tuple (show s.heap.IsTuple a its.toArray from p) ?_
  refine ⟨s.heap.objs.size, [s.heap.objs.size], _, _, H, rfl, I.kept (t' := s.toks) fun b o e => Heap.get?_push_of_some _ e, turn_tuple a _, ⟨_, Heap.get?_push_size _ rfl, rfl, rfl⟩, fun b hb => ?_, q⟩
  have e : b = s.heap.objs.size := by simpa using hb
  subst e
  exact I.fpOk (Nat.le_refl _) (I.hok.fresh (Nat.le_refl _))
theorem iter_str {tg : Expr} {pins : List (Addr × Obj)} {σ : L2.St} {H : Hp} {s : Shared} {R : It → Hp → Prop} {E : Value → Shared → Prop} {x : Str} {t : Tok} (I : Inv X pins σ H s) (q : R (Its x) H) :
    wpAny (model X.prog X.w) X.A (pyIter (.str x t)) (PIE X pins σ tg R) E s := by
  cases ha : x.cps.all (· < 128)
  · exact wpAny_pyIter_wide ha (pi_one (tk := s.toks) I _ (turn_str _ x t "str_iterator" (.inr rfl)) ⟨_, Heap.get?_push_size _ rfl, rfl, rfl⟩ q)
  · exact wpAny_pyIter_ascii ha (pi_one (tk := s.toks) I _ (turn_str _ x t "str_ascii_iterator" (.inl rfl)) ⟨_, Heap.get?_push_size _ rfl, rfl, rfl⟩ q)
def srcOf : D → Store → Option Src
  | .tup xs, _ => some (.val xs)
  | .lst xs, _ => some (.val xs)
  | .scr xs, _ => some (.val xs)
  | .str x, _ => some (.val (x.cps.toList.map fun c => .str ⟨#[c]⟩))
  | .obj k, η => match η[k]? with
    | some (.lst _) => some (.dyn (objAt k))
    | _ => none
  | _, _ => none
def iVal (f : FE) : FI := fun ρ η => (f ρ η).bind fun d η => match srcOf d η with
  | some s => .ok s η
  | none => .no
theorem itOk_str {x : Str} : ItOk K (Its x) (.val (x.cps.toList.map fun c => .str ⟨#[c]⟩)) w H := by
  refine ⟨fun i w1 H1 η y e hr hx => ?_, fun i w1 H1 η e hr hf => ?_⟩
  · have hx' : (x.cps.toList.map fun c => D.str ⟨#[c]⟩)[i]? = some y := hx
    rw [List.getElem?_map] at hx'
    cases ec : x.cps.toList[i]? with
    | none => rw [ec] at hx'; cases hx'
    | some c =>
      rw [ec] at hx'
      cases hx'
      have ec' : x.cps[i]? = some c := by simpa using ec
      refine ⟨(Array.getElem?_eq_some_iff.mp ec').1, fun v H2 ⟨e1, c', hc, ev⟩ => ?_⟩
      subst e1 ev
      rw [ec'] at hc; cases hc
      exact ⟨.refl, hr, .str _⟩
  · have : (x.cps.toList.map fun c => D.str ⟨#[c]⟩).length ≤ i := Nat.le_of_eq hf
    show x.cps.size ≤ i
    simpa using this
theorem di_val {tg : Expr} (h : DE X W e f) : DI X W tg e (iVal f) := by
  refine ⟨fun pins s σ H R I ⟨w, ρ, η, rel, p⟩ => ?_⟩
  refine thn (h.run pins s σ H _ I (rdE_then rel p)) fun v s1 ⟨x, H1, I1, r1, w1, d, η1, e1, rel1, rv, p1⟩ => ?_
  cases rv with
  | tup hs rr => cases r1; exact iter_tup I1 hs.sq (p1 _ w1 H1 .refl rel1.heap (itOk_tup (fun _ _ e => (hs.ext e).sq) rr))
  | lst hs rr => cases r1; exact iter_list I1 hs.sq (p1 _ w1 H1 .refl rel1.heap (itOk_lst (fun _ _ e => (hs.ext e).sq) rr))
  | scr hs rr => cases r1; exact iter_list I1 hs.sq (p1 _ w1 H1 .refl rel1.heap (itOk_lst (fun _ _ e => (hs.ext e).sq) rr))
  | str y => obtain ⟨t, rfl⟩ := r1; exact iter_str I1 (p1 _ w1 H1 .refl rel1.heap itOk_str)
  | @obj i a ha =>
    cases r1
    dsimp only [srcOf] at p1
    cases eo : η1[i]? with
    | none => rw [eo] at p1; exact p1.elim
    | some ob =>
      rw [eo] at p1
      cases ob with
      | lst ds =>
        obtain ⟨xs, eH, _⟩ := rel1.heap.at_ _ _ _ ha eo
        exact iter_list I1 (SqL.of eH) (p1 _ w1 H1 .refl rel1.heap (itOk_obj ha))
      | _ => exact p1.elim
  | _ => exact p1.elim

/-! ### for -/
def forL (b : TGt) (body : FS) : List D → Env → Store → RS
  | [], ρ, η => .nx ρ η
  | x :: r, ρ, η => match b x ρ with
    | none => .no
    | some ρ => match body ρ η with
      | .nx ρ η => forL b body r ρ η
      | .cnt ρ η => forL b body r ρ η
      | .brk ρ η => .nx ρ η
      | r => r
def forO (b : TGt) (body : FS) (at_ : Nat → Store → Option (Option D)) : Nat → Nat → Env → Store → RS
  | 0, _, _, _ => .no
  | m + 1, i, ρ, η => match at_ i η with
    | none => .no
    | some none => .nx ρ η
    | some (some x) => match b x ρ with
        | none => .no
        | some ρ => match body ρ η with
          | .nx ρ η => forO b body at_ m (i + 1) ρ η
          | .cnt ρ η => forO b body at_ m (i + 1) ρ η
          | .brk ρ η => .nx ρ η
          | r => r
def sFor (N : Nat) (fi : FI) (b : TGt) (body : FS) : FS := fun ρ η => (fi ρ η).bindS ρ fun src η => match src with
  | .val xs => forL b body xs ρ η
  | .dyn f => forO b body f N 0 ρ η
/-- a body's turn -/
theorem turn_reads {E : Ends} {Nx : L2.St → Hp → Prop} {k : Env → Store → RS} (rel : Rel K w σ H ρ η)
    (h : PostS K w H E W (match fs ρ η with | .nx ρ η => k ρ η | .cnt ρ η => k ρ η | .brk ρ η => .nx ρ η | r => r))
    (hn : ∀ ρ' η' σ' w' H', Ext w H w' H' → Rel K w' σ' H' ρ' η' → PostS K w' H' E W (k ρ' η') → Nx σ' H') : rdS K W fs { E with nx := Nx, ct := Nx, bk := E.nx } σ H := by
  refine ⟨w, ρ, η, rel, ?_⟩
  cases e : fs ρ η with
  | nx ρ' η' => rw [e] at h; exact fun σ' w' H' e' r => hn ρ' η' σ' w' H' e' r (PostS.weak e' h)
  | cnt ρ' η' => rw [e] at h; exact fun σ' w' H' e' r => hn ρ' η' σ' w' H' e' r (PostS.weak e' h)
  | brk ρ' η' => rw [e] at h; exact h
  | ret d η' => rw [e] at h; exact h
  | exc x ρ' η' => rw [e] at h; exact h
  | no => rw [e] at h; exact h
theorem for_reads {E : Ends} {N : Nat} {fi : FI} {sl : List Nat} {b : TGt} (h : rdS K W (sFor N fi b fs) E σ H) : tFor (rdI K W fi) (rdG K sl b) (rdS K W fs) E σ H := by
  obtain ⟨w, ρ, η, rel, p⟩ := h
  refine ⟨w, ρ, η, rel, (PostS.bind (rep := fun w H J src => ItOk K J src w H) rel.env p).imp fun J H1 ⟨w1, src, η1, e1, rel1, io, p1⟩ => ?_⟩
  cases src with
  | val xs =>
    refine ⟨fun i m σ H => ∃ w ρ η, Ext w1 H1 w H ∧ Rel K w σ H ρ η ∧ m = xs.length - i ∧ i ≤ xs.length ∧ PostS K w H E W (forL b fs (xs.drop i) ρ η), ⟨_, w1, ρ, η1, .refl, rel1, rfl, Nat.zero_le _, p1⟩, fun i m σ2 H2 ⟨w2, ρ2, η2, e2, rel2, em, hi, p2⟩ => ?_⟩
    cases ex : xs[i]? with
    | none =>
      have hl : xs.length ≤ i := List.getElem?_eq_none_iff.mp ex
      rw [List.drop_eq_nil_of_le hl] at p2
      exact .inl ⟨io.stop i w2 H2 η2 e2 rel2.heap (Nat.le_antisymm hl hi), p2 σ2 w2 H2 .refl rel2⟩
    | some x =>
      obtain ⟨hl, ex'⟩ := List.getElem?_eq_some_iff.mp ex
      have ed : xs.drop i = x :: xs.drop (i + 1) := by rw [List.drop_eq_getElem_cons hl, ex']
      rw [ed] at p2
      obtain ⟨g, y⟩ := io.go i w2 H2 η2 x e2 rel2.heap ex
      refine .inr ⟨g, fun σ' H' => ∃ w ρ η, Ext w1 H1 w H' ∧ Rel K w σ' H' ρ η ∧ PostS K w H' E W (forL b fs (xs.drop (i + 1)) ρ η), fun σ' H' ⟨w', ρ', η', e', r', q'⟩ => ⟨xs.length - (i + 1), by omega, w', ρ', η', e', r', rfl, hl, q'⟩, fun v H3 hy => ?_⟩
      obtain ⟨e3, hr3, rv⟩ := y v H3 hy
      dsimp only [forL] at p2
      cases eb : b x ρ2 with
      | none => rw [eb] at p2; exact p2.elim
      | some ρ3 =>
        rw [eb] at p2
        refine ⟨w2, ρ2, x, ρ3, rel2.env.ext e3, rv, eb, fun σ3 er3 _ _ => ?_⟩
        exact turn_reads ⟨er3, hr3⟩ (PostS.weak e3 p2) fun ρ' η' σ' w' H' e' r' q' => ⟨w', ρ', η', (e2.trans e3).trans e', r', q'⟩
  | dyn f =>
    refine ⟨fun i m σ H => ∃ w ρ η, Ext w1 H1 w H ∧ Rel K w σ H ρ η ∧ PostS K w H E W (forO b fs f m i ρ η), ⟨_, w1, ρ, η1, .refl, rel1, p1⟩, fun i m σ2 H2 ⟨w2, ρ2, η2, e2, rel2, p2⟩ => ?_⟩
    cases m with
    | zero => exact p2.elim
    | succ m =>
      dsimp only [forO] at p2
      cases eo : f i η2 with
      | none => rw [eo] at p2; exact p2.elim
      | some ob =>
        rw [eo] at p2
        cases ob with
        | none => exact .inl ⟨io.stop i w2 H2 η2 e2 rel2.heap eo, p2 σ2 w2 H2 .refl rel2⟩
        | some x =>
            obtain ⟨g, y⟩ := io.go i w2 H2 η2 x e2 rel2.heap (by dsimp only [Src.at]; rw [eo])
            refine .inr ⟨g, fun σ' H' => ∃ w ρ η, Ext w1 H1 w H' ∧ Rel K w σ' H' ρ η ∧ PostS K w H' E W (forO b fs f m (i + 1) ρ η), fun σ' H' ⟨w', ρ', η', e', r', q'⟩ => ⟨m, by omega, w', ρ', η', e', r', q'⟩, fun v H3 hy => ?_⟩
            obtain ⟨e3, hr3, rv⟩ := y v H3 hy
            dsimp only at p2
            cases eb : b x ρ2 with
            | none => rw [eb] at p2; exact p2.elim
            | some ρ3 =>
              rw [eb] at p2
              refine ⟨w2, ρ2, x, ρ3, rel2.env.ext e3, rv, eb, fun σ3 er3 _ _ => ?_⟩
              exact turn_reads ⟨er3, hr3⟩ (PostS.weak e3 p2) fun ρ' η' σ' w' H' e' r' q' => ⟨w', ρ', η', (e2.trans e3).trans e', r', q'⟩
theorem ds_for {N : Nat} {tg iter : Expr} {body : List Stmt} {fi : FI} {sl : List Nat} {b : TGt} (hp : PassesOwn (model X.prog X.w) X.A X.env X.xe) (hc : X.calm = true) (hi : DI X W tg iter fi) (hg : DG X sl tg b) (hb : DSs X W body fs)
    (hs : ∀ x, foldedSetIterable iter X.env x = pure x := by intro _; rfl) : DS X W (.For tg iter body [] pos) (sFor N fi b fs) := PS.imp (ps_for hp hc hi hg hb hs) fun _ _ _ => for_reads
/-! ### while -/
def whl (c : FT) (body : FS) : Nat → Env → Store → RS
  | 0, _, _ => .no
  | m + 1, ρ, η => (c ρ η).bindS ρ fun b η => if b = true then (match body ρ η with
      | .nx ρ η => whl c body m ρ η
      | .cnt ρ η => whl c body m ρ η
      | .brk ρ η => .nx ρ η
      | r => r) else .nx ρ η
theorem ds_while {N : Nat} {body : List Stmt} (hp : PassesOwn (model X.prog X.w) X.A X.env X.xe) (hc : DT X W c s) (hb : DSs X W body fs) : DS X W (.While c body [] pos) (whl s fs N) :=
  PS.imp (ps_while hp hc hb) fun E σ H ⟨w, ρ, η, rel, p⟩ => by
    refine ⟨fun m σ H => ∃ w ρ η, Rel X.K w σ H ρ η ∧ PostS X.K w H E W (whl s fs m ρ η), ⟨N, w, ρ, η, rel, p⟩, fun m σ2 H2 ⟨w2, ρ2, η2, rel2, p2⟩ => ?_⟩
    cases m with
    | zero => exact p2.elim
    | succ m =>
      dsimp only [whl] at p2
      obtain ⟨w3, ρ3, η3, rel3, q⟩ := rdT_thenS rel2 p2
      refine ⟨w3, ρ3, η3, rel3, q.imp fun b H1 ⟨w1, η1, e, rel1, p1⟩ => ?_⟩
      cases b with
      | false => exact iteF (p1 σ2 w1 H1 .refl rel1)
      | true =>
        refine iteT ⟨fun σ' H' => ∃ w ρ η, Rel X.K w σ' H' ρ η ∧ PostS X.K w H' E W (whl s fs m ρ η), fun σ' H' ⟨w', ρ', η', r', q'⟩ => ⟨m, by omega, w', ρ', η', r', q'⟩, ?_⟩
        exact turn_reads rel1 p1 fun ρ' η' σ' w' H' e' r' q' => ⟨w', ρ', η', r', q'⟩

/-! ### list comprehensions -/
def wipeD (ρ : Env) : List Nat → Env
  | [] => ρ
  | v :: vs => (wipeD ρ vs).set v none
theorem EnvRel.wipe (h : EnvRel K w σ H ρ) : ∀ vs : List Nat, EnvRel K w (wipe σ vs) H (wipeD ρ vs)
  | [] => h
  | v :: vs => by
    have ih := EnvRel.wipe h vs
    refine ⟨by simp [wipeD, L2.wipe, ih.len], fun i d e => ?_⟩
    dsimp only [wipeD, L2.wipe] at e ⊢
    by_cases hi : i = v
    · subst hi
      rw [List.getElem?_set] at e
      simp at e
    · rw [List.getElem?_set_ne (Ne.symm hi)] at e ⊢
      exact ih.at_ i d e
/-- an error within is none of ours -/
def nx {α : Type} : R α → R α
  | .ok a η => .ok a η
  | _ => .no
def cmp (b : TGt) (t : FT) (e : FE) (ρ : Env) : List D → Store → R (List D)
  | [], η => .ok [] η
  | x :: r, η => match b x ρ with
    | none => .no
    | some ρ1 => (t ρ1 η).bind fun k η => if k = true then (e ρ1 η).bind fun y η => (cmp b t e ρ r η).bind fun ys η => .ok (y :: ys) η else cmp b t e ρ r η
def cmpO (b : TGt) (t : FT) (e : FE) (ρ : Env) (at_ : Nat → Store → Option (Option D)) : Nat → Nat → Store → R (List D)
  | 0, _, _ => .no
  | m + 1, i, η => match at_ i η with
    | none => .no
    | some none => .ok [] η
    | some (some x) => match b x ρ with
        | none => .no
        | some ρ1 => (t ρ1 η).bind fun q η => if q = true then (e ρ1 η).bind fun y η => (cmpO b t e ρ at_ m (i + 1) η).bind fun ys η => .ok (y :: ys) η else cmpO b t e ρ at_ m (i + 1) η
def cmpS (N : Nat) (src : Src) (b : TGt) (t : FT) (e : FE) (ρ : Env) (η : Store) : R (List D) := match src with
  | .val xs => cmp b t e ρ xs η
  | .dyn f => cmpO b t e ρ f N 0 η
def yes : FT := fun _ η => .ok true η
/-- the list as a value -/
def lc (N : Nat) (vs : List Nat) (fi : FI) (b : TGt) (t : FT) (e : FE) : FE := fun ρ η => (fi ρ η).bind fun src η => (nx (cmpS N src b t e (wipeD ρ vs) η)).bind fun ys η => if ys.length ≤ sizeLine then .ok (.lst ys) η else .no
/-- the list as a thing that may change -/
def lcO (N : Nat) (vs : List Nat) (fi : FI) (b : TGt) (t : FT) (e : FE) : FE := fun ρ η => (fi ρ η).bind fun src η => (nx (cmpS N src b t e (wipeD ρ vs) η)).bind fun ys η => if ys.length ≤ sizeLine then .ok (.obj η.length) (η ++ [.lst ys]) else .no
abbrev WF : WX := fun _ _ _ _ => False
end
end Dn
/-! Dn part 4: comprehensions read; defs. -/
namespace Dn
open PySem PySem.Spec PyProof.Rows L2
section
variable {X : Cx} {W : WX} {K : PySem.W.Frag} {w w1 w2 w' : Wd} {σ : L2.St} {H H1 H2 H' : Hp} {ρ ρ0 : Env} {η η1 η' : Store} {f te : FE} {s : FT} {vs sl : List Nat} {b : TGt} {ys : List D} {Dd : Addr}
/-- a list that is being made changes -/
theorem Mv.busy {o : HO} (hb : Dd ∈ w.bz) : Mv w H w (upd H Dd o) := ⟨⟨[], by simp⟩, fun c u h _ m n => ⟨by
  rw [upd_ne]
  · exact h
  · intro q; subst q; exact n hb, m, n⟩⟩
theorem Ext.busy {o : HO} (ex : Ext w1 H1 w H) (hn : H1 Dd = none) (hb1 : Dd ∉ w1.bz) : Ext w1 H1 w (upd H Dd o) :=
  ⟨⟨ex.pre, fun c u h k m n => let ⟨a1, a2, a3⟩ := ex.keep c u h k m n; ⟨by rw [upd_ne (ne_of_none h hn)]; exact a1, a2, a3⟩⟩, fun c hc => ⟨(ex.bz c hc).1, by
    rw [upd_ne]
    · exact (ex.bz c hc).2
    · intro q; subst q; exact hb1 hc⟩⟩
theorem HeapRel.busy {o : HO} (ho : Ny o) (hr : HeapRel K w H η) (hb : Dd ∈ w.bz) : HeapRel K w (upd H Dd o) η := by
  refine ⟨hr.len, hr.nd, fun i a ob ha ho => (hr.at_ i a ob ha ho).mv (Mv.busy hb) ?_, fun c hc => ⟨(hr.bz c hc).1, ?_⟩, let ⟨_, _, f, k⟩ := hr.bz _ hb; tabs_upd hr.tb f k⟩
  · rw [upd_ne]
    intro q; subst q
    exact (hr.bz _ hb).1 (List.mem_of_getElem? ha)
  · by_cases q : c = Dd
    · subst q; exact ⟨_, upd_same, ho⟩
    · rw [upd_ne q]; exact (hr.bz c hc).2
/-- inside: worlds w1 (ahead), then on; the list at Dd is being made -/
structure Mk (K : PySem.W.Frag) (w1 : Wd) (H1 : Hp) (ρ0 : Env) (Dd : Addr) (η' : Store) (ys : List D) (rest : Store → R (List D)) (H : Hp) : Prop where
  ex : ∃ w η acc accV ys', Ext w1 H1 w H ∧ Dd ∈ w.bz ∧ HeapRel K w H η ∧ H Dd = some (.lst accV) ∧ RepVs K w H accV acc ∧ rest η = .ok ys' η' ∧ acc ++ ys' = ys
theorem ok_bind {α β : Type} {r : R α} {k : α → Store → R β} {a : β} {η : Store} (h : r.bind k = .ok a η) : ∃ x η1, r = .ok x η1 ∧ k x η1 = .ok a η := by
  cases r with
  | ok x η1 => exact ⟨x, η1, rfl, h⟩
  | exc x η1 => cases h
  | no => cases h
theorem wipe_eq {σ1 σ2 : L2.St} (hl : σ2.length = σ1.length) : ∀ {vs : List Nat}, (∀ j, j ∉ vs → σ2[j]? = σ1[j]?) → wipe σ2 vs = wipe σ1 vs := by
  intro vs h
  have one : ∀ (vs : List Nat) (j : Nat), j ∈ vs → j < σ1.length → (wipe σ2 vs)[j]? = (wipe σ1 vs)[j]? := by
    intro vs
    induction vs with
    | nil => intro j hj; cases hj
    | cons v vs ih =>
      intro j hj hlt
      dsimp only [wipe]
      by_cases e : j = v
      · subst e
        rw [List.getElem?_set_self (by rw [wipe_length, hl]; exact hlt), List.getElem?_set_self (by rw [wipe_length]; exact hlt)]
      · rw [List.getElem?_set_ne (Ne.symm e), List.getElem?_set_ne (Ne.symm e)]
        rcases List.mem_cons.mp hj with q | q
        · exact absurd q e
        · exact ih j q hlt
  refine List.ext_getElem? fun j => ?_
  by_cases hj : j ∈ vs
  · by_cases hlt : j < σ1.length
    · exact one vs j hj hlt
    · rw [List.getElem?_eq_none (by rw [wipe_length, hl]; omega), List.getElem?_eq_none (by rw [wipe_length]; omega)]
  · rw [wipe_out hj, wipe_out hj]; exact h j hj
/-- one turn -/
theorem mk_turn (hn : H1 Dd = none) (hb1 : Dd ∉ w1.bz) {rest : Store → R (List D)} {x : D} {v : V} {ys' acc : List D} {accV : List V} {ρ1 : Env} (hsub : ∀ j ∈ sl, j ∈ vs) (env : EnvRel K w (wipe σ vs) H ρ0) (ex : Ext w1 H1 w H) (hb : Dd ∈ w.bz) (hr : HeapRel K w H η)
    (hD : H Dd = some (.lst accV)) (ra : RepVs K w H accV acc) (rv : RepV K w H v x) (eb : b x ρ0 = some ρ1) (hz : ys.length ≤ sizeLine)
    (hs : ((s ρ1 η).bind fun q η => if q = true then (te ρ1 η).bind fun y η => (rest η).bind fun ys η => .ok (y :: ys) η else rest η) = .ok ys' η') (ey : acc ++ ys' = ys) :
    rdG K sl b v (wipe σ vs) H fun σ2 H2 => wipe σ2 vs = wipe σ vs ∧ rdT K WF s σ2 H2 fun b H3 =>
      if b = true then rdE K WF te σ2 H3 fun y H4 => ∃ acc, H4 Dd = some (.lst acc) ∧ acc.length < sizeLine ∧ Mk K w1 H1 ρ0 Dd η' ys rest (upd H4 Dd (.lst (acc ++ [y]))) else Mk K w1 H1 ρ0 Dd η' ys rest H3 := by
  refine ⟨w, ρ0, x, ρ1, env, rv, eb, fun σ2 er2 hl hf => ⟨?_, ?_⟩⟩
  · have e1 : wipe σ2 vs = wipe (wipe σ vs) vs := wipe_eq hl fun j hj => hf j fun z => hj (hsub j z)
    rw [e1]
    refine wipe_eq (wipe_length _ _) fun j hj => ?_
    rw [wipe_out hj]
  · obtain ⟨q, η2, e1, e2⟩ := ok_bind hs
    refine ⟨w, ρ1, η, ⟨er2, hr⟩, ?_⟩
    rw [e1]
    intro q' w3 H3 e3 hr3 eq
    subst eq
    have hb3 := (e3.bz Dd hb).1
    have hD3 : H3 Dd = some (.lst accV) := (e3.bz Dd hb).2.trans hD
    cases q' with
    | false => exact iteF ⟨w3, η2, acc, accV, ys', ex.trans e3, hb3, hr3, hD3, ra.ext e3, e2, ey⟩
    | true =>
      rw [if_pos rfl] at e2
      obtain ⟨y, η3, f1, f2⟩ := ok_bind e2
      obtain ⟨zs, η4, g1, g2⟩ := ok_bind f2
      cases g2
      refine iteT ⟨w3, ρ1, η2, ⟨er2.ext e3, hr3⟩, ?_⟩
      rw [f1]
      intro vy w4 H4 e4 hr4 rvy
      have hb4 := (e4.bz Dd hb3).1
      have hD4 : H4 Dd = some (.lst accV) := (e4.bz Dd hb3).2.trans hD3
      have ra4 : RepVs K w4 H4 accV acc := (ra.ext e3).ext e4
      have hlt : accV.length < sizeLine := by
        have : acc.length + 1 + zs.length ≤ sizeLine := by
          rw [← ey] at hz
          simp at hz
          omega
        rw [ra4.length]; omega
      refine ⟨accV, hD4, hlt, ⟨w4, η3, acc ++ [y], accV ++ [vy], zs, ?_, hb4, ?_, upd_same, ?_, g1, by rw [← ey]; simp⟩⟩
      · exact ((ex.trans e3).trans e4).busy hn hb1
      · exact hr4.busy ny_lst hb4
      · exact (ra4.append (.one rvy)).mv (Mv.busy hb4)
/-- the making begins -/
theorem mk_start {r : Store → R (List D)} (hr : HeapRel K w1 H1 η1) (hn : H1 Dd = none) (e : r η1 = .ok ys η') : Mk K w1 H1 ρ0 Dd η' ys r (upd H1 Dd (.lst [])) := by
  have hnn := hr.new hn
  refine ⟨⟨w1.io, Dd :: w1.bz⟩, η1, [], [], ys, ?_, List.mem_cons_self, ?_, upd_same, .nil, e, rfl⟩
  · exact ⟨⟨⟨[], by simp⟩, fun c u h _ m n => ⟨by rw [upd_ne (ne_of_none h hn)]; exact h, m, fun q => by
      rcases List.mem_cons.mp q with q | q
      · subst q; rw [hn] at h; cases h
      · exact n q⟩⟩, fun c hc => ⟨List.mem_cons_of_mem _ hc, by obtain ⟨_, u, f, _⟩ := hr.bz c hc; rw [upd_ne (ne_of_none f hn)]⟩⟩
  · have m : Mv w1 H1 ⟨w1.io, Dd :: w1.bz⟩ (upd H1 Dd (.lst [])) := ⟨⟨[], by simp⟩, fun c u h _ m n => ⟨by rw [upd_ne (ne_of_none h hn)]; exact h, m, fun q => by
      rcases List.mem_cons.mp q with q | q
      · subst q; rw [hn] at h; cases h
      · exact n q⟩⟩
    refine ⟨hr.len, hr.nd, fun i a ob ha ho => (hr.at_ i a ob ha ho).mv m (upd_ne ?_), fun c hc => ?_, tabs_new hr.tb hn⟩
    · intro q; subst q; exact hnn.1 (List.mem_of_getElem? ha)
    · rcases List.mem_cons.mp hc with q | q
      · subst q; exact ⟨hnn.1, _, upd_same, ny_lst⟩
      · obtain ⟨n, u, f, k⟩ := hr.bz c q
        exact ⟨n, u, by rw [upd_ne (ne_of_none f hn)]; exact f, k⟩
/-- the list is made: a value -/
theorem mk_done {ρ0 : Env} {Q : VK} (hr1 : HeapRel K w1 H1 η1) (hn : H1 Dd = none) (ex : Ext w1 H1 w H) (hb : Dd ∈ w.bz) (hr : HeapRel K w H η) {accV : List V} (hD : H Dd = some (.lst accV)) (ra : RepVs K w H accV ys)
    (q : ∀ v w' H', Ext w1 H1 w' H' → HeapRel K w' H' η → RepV K w' H' v (.lst ys) → Q v H') : Q (.ref Dd) H := by
  have hbs : ∀ c ∈ w1.bz, c ∈ w.bz := fun c hc => (ex.bz c hc).1
  have m : Mv w H ⟨w.io, w1.bz⟩ H := ⟨⟨[], by simp⟩, fun c u h _ m n => ⟨h, m, fun z => n (hbs c z)⟩⟩
  refine q _ ⟨w.io, w1.bz⟩ H ?_ ?_ (.lst ⟨hD, (hr.bz _ hb).1, (hr1.new hn).2⟩ (ra.mv m))
  · exact ⟨⟨ex.pre, fun c u h k m n => let ⟨a1, a2, a3⟩ := ex.keep c u h k m n; ⟨a1, a2, n⟩⟩, fun c hc => ⟨hc, (ex.bz c hc).2⟩⟩
  · exact ⟨hr.len, hr.nd, fun i a ob ha ho => (hr.at_ i a ob ha ho).mv m rfl, fun c hc => hr.bz c (hbs c hc), hr.tb⟩
/-- .. a thing that may change -/
theorem mk_doneO {ρ0 : Env} {Q : VK} (hr1 : HeapRel K w1 H1 η1) (hn : H1 Dd = none) (ex : Ext w1 H1 w H) (hb : Dd ∈ w.bz) (hr : HeapRel K w H η) {accV : List V} (hD : H Dd = some (.lst accV)) (ra : RepVs K w H accV ys)
    (q : ∀ v w' H', Ext w1 H1 w' H' → HeapRel K w' H' (η ++ [.lst ys]) → RepV K w' H' v (.obj η.length) → Q v H') : Q (.ref Dd) H := by
  have hbs : ∀ c ∈ w1.bz, c ∈ w.bz := fun c hc => (ex.bz c hc).1
  have hnb := (hr1.new hn).2
  have m : Mv w H ⟨w.io ++ [Dd], w1.bz⟩ H := ⟨⟨[Dd], rfl⟩, fun c u h _ m n => ⟨h, fun z => by
    rcases List.mem_append.mp z with z | z
    · exact m z
    · have e : c = Dd := by simpa using z
      subst e; exact n hb, fun z => n (hbs c z)⟩⟩
  refine q _ ⟨w.io ++ [Dd], w1.bz⟩ H ?_ ?_ (.obj ?_)
  · exact ⟨⟨by obtain ⟨t, e⟩ := ex.pre; exact ⟨t ++ [Dd], by show w.io ++ [Dd] = _; rw [e, List.append_assoc]⟩, fun c u h k m n => let ⟨a1, a2, a3⟩ := ex.keep c u h k m n; ⟨a1, (by
      intro z
      rcases List.mem_append.mp z with z | z
      · exact a2 z
      · have e : c = Dd := by simpa using z
        subst e; rw [hn] at h; cases h), n⟩⟩, fun c hc => ⟨hc, (ex.bz c hc).2⟩⟩
  · refine ⟨by simp [hr.len], ?_, fun i a ob ha ho => ?_, fun c hc => ⟨fun z => ?_, (hr.bz c (hbs c hc)).2⟩, hr.tb⟩
    · exact List.nodup_append.mpr ⟨hr.nd, by simp, fun a ha c hc => by
        have e : c = Dd := by simpa using hc
        subst e
        intro z; subst z
        exact (hr.bz _ hb).1 ha⟩
    · by_cases hi : i < w.io.length
      · rw [List.getElem?_append_left hi] at ha
        rw [List.getElem?_append_left (hr.len ▸ hi)] at ho
        exact (hr.at_ i a ob ha ho).mv m rfl
      · have hi' : i = w.io.length := by
          have := (List.getElem?_eq_some_iff.mp ha).1
          simp at this; omega
        subst hi'
        rw [List.getElem?_append_right (Nat.le_refl _)] at ha
        rw [hr.len, List.getElem?_append_right (Nat.le_refl _)] at ho
        simp at ha ho
        subst ha ho
        exact ⟨accV, hD, ra.mv m⟩
    · rcases List.mem_append.mp z with z | z
      · exact (hr.bz c (hbs c hc)).1 z
      · have e : c = Dd := by simpa using z
        subst e; exact hnb hc
  · show (w.io ++ [Dd])[η.length]? = some Dd
    rw [← hr.len, List.getElem?_append_right (Nat.le_refl _)]
    simp
theorem nx_ok {r : R (List D)} {ys : List D} (h : nx r = .ok ys η') : r = .ok ys η' := by
  cases r <;> simp_all [nx]
/-- the whole comprehension, up to its end -/
theorem lc_reads {N : Nat} {fi : FI} {Q : VK} {k : List D → Store → R D} (hsub : ∀ j ∈ sl, j ∈ vs)
    (h : rdE K W (fun ρ η => (fi ρ η).bind fun src η => (nx (cmpS N src b s te (wipeD ρ vs) η)).bind fun ys η => if ys.length ≤ sizeLine then k ys η else .no) σ H Q)
    (fin : ∀ {w1 w : Wd} {H1 H : Hp} {η1 η : Store} {Dd : Addr} {accV : List V} {ys : List D}, HeapRel K w1 H1 η1 → H1 Dd = none → Ext w1 H1 w H → Dd ∈ w.bz → HeapRel K w H η → H Dd = some (.lst accV) → RepVs K w H accV ys →
      Post K (RepV K) w1 H1 Q (fun c d H' => W c d σ H') (k ys η) → Q (.ref Dd) H) :
    tLc (rdI K W fi) (rdG K sl b) (rdT K WF s) (rdE K WF te) vs σ H Q := by
  obtain ⟨w, ρ, η, rel, p⟩ := h
  refine ⟨w, ρ, η, rel, (Post.bind (rep := fun w H J src => ItOk K J src w H) p).imp fun J H1 ⟨w1, src, η1, e1, hr1, io, p1⟩ => ?_⟩
  intro Dd hn
  have hb1 := (hr1.new hn).2
  cases ec : nx (cmpS N src b s te (wipeD ρ vs) η1) with
  | exc x η' => exfalso; revert ec; cases cmpS N src b s te (wipeD ρ vs) η1 <;> simp [nx]
  | no => rw [ec] at p1; exact p1.elim
  | ok ys η' =>
    rw [ec] at p1
    replace p1 : Post K (RepV K) w1 H1 Q (fun c d H' => W c d σ H') (if ys.length ≤ sizeLine then k ys η' else .no) := p1
    split at p1
    case isFalse => exact p1.elim
    rename_i hz
    have ec := nx_ok ec
    have env0 : ∀ w' H', Ext w1 H1 w' H' → EnvRel K w' (wipe σ vs) H' (wipeD ρ vs) := fun w' H' e => ((rel.env.ext e1).ext e).wipe vs
    cases src with
    | val xs =>
      refine ⟨fun i m H => (m = xs.length - i ∧ i ≤ xs.length) ∧ Mk K w1 H1 (wipeD ρ vs) Dd η' ys (cmp b s te (wipeD ρ vs) (xs.drop i)) H, ⟨_, ⟨rfl, Nat.zero_le _⟩, mk_start hr1 hn ec⟩, fun i m H2 ⟨⟨em, hi⟩, ⟨w2, η2, acc, accV, ys', ex, hb, hr2, hD, ra, er, ey⟩⟩ => ?_⟩
      cases exi : xs[i]? with
      | none =>
        have hl : xs.length ≤ i := List.getElem?_eq_none_iff.mp exi
        rw [List.drop_eq_nil_of_le hl] at er
        cases er
        simp at ey
        subst ey
        exact .inl ⟨io.stop i w2 H2 η' ex hr2 (Nat.le_antisymm hl hi), fin hr1 hn ex hb hr2 hD ra p1⟩
      | some x =>
        obtain ⟨hl, ex'⟩ := List.getElem?_eq_some_iff.mp exi
        have ed : xs.drop i = x :: xs.drop (i + 1) := by rw [List.drop_eq_getElem_cons hl, ex']
        rw [ed] at er
        obtain ⟨g, y⟩ := io.go i w2 H2 η2 x ex hr2 exi
        refine .inr ⟨g, Mk K w1 H1 (wipeD ρ vs) Dd η' ys (cmp b s te (wipeD ρ vs) (xs.drop (i + 1))), fun H' q => ⟨xs.length - (i + 1), by omega, ⟨rfl, hl⟩, q⟩, fun v H3 hy => ?_⟩
        obtain ⟨e3, hr3, rv⟩ := y v H3 hy
        dsimp only [cmp] at er
        cases eb : b x (wipeD ρ vs) with
        | none => rw [eb] at er; cases er
        | some ρ3 =>
          rw [eb] at er
          exact mk_turn hn hb1 hsub (env0 _ _ (ex.trans e3)) (ex.trans e3) (e3.bz _ hb).1 hr3 ((e3.bz _ hb).2.trans hD) (ra.ext e3) rv eb hz er ey
    | dyn f =>
      refine ⟨fun i m H => Mk K w1 H1 (wipeD ρ vs) Dd η' ys (cmpO b s te (wipeD ρ vs) f m i) H, ⟨_, mk_start hr1 hn ec⟩, fun i m H2 ⟨w2, η2, acc, accV, ys', ex, hb, hr2, hD, ra, er, ey⟩ => ?_⟩
      cases m with
      | zero => cases er
      | succ m =>
        dsimp only [cmpO] at er
        cases eo : f i η2 with
        | none => rw [eo] at er; cases er
        | some ob =>
          rw [eo] at er
          cases ob with
          | none =>
            cases er
            simp at ey
            subst ey
            exact .inl ⟨io.stop i w2 H2 η' ex hr2 eo, fin hr1 hn ex hb hr2 hD ra p1⟩
          | some x =>
              obtain ⟨g, y⟩ := io.go i w2 H2 η2 x ex hr2 (by dsimp only [Src.at]; rw [eo])
              refine .inr ⟨g, Mk K w1 H1 (wipeD ρ vs) Dd η' ys (cmpO b s te (wipeD ρ vs) f m (i + 1)), fun H' q => ⟨m, by omega, q⟩, fun v H3 hy => ?_⟩
              obtain ⟨e3, hr3, rv⟩ := y v H3 hy
              dsimp only at er
              cases eb : b x (wipeD ρ vs) with
              | none => rw [eb] at er; cases er
              | some ρ3 =>
                rw [eb] at er
                exact mk_turn hn hb1 hsub (env0 _ _ (ex.trans e3)) (ex.trans e3) (e3.bz _ hb).1 hr3 ((e3.bz _ hb).2.trans hD) (ra.ext e3) rv eb hz er ey
theorem lcV_reads {N : Nat} {fi : FI} {Q : VK} (hsub : ∀ j ∈ sl, j ∈ vs) (h : rdE K W (lc N vs fi b s te) σ H Q) : tLc (rdI K W fi) (rdG K sl b) (rdT K WF s) (rdE K WF te) vs σ H Q :=
  lc_reads hsub h fun hr1 hn ex hb hr hD ra p => mk_done (ρ0 := []) hr1 hn ex hb hr hD ra p
theorem lcO_reads {N : Nat} {fi : FI} {Q : VK} (hsub : ∀ j ∈ sl, j ∈ vs) (h : rdE K W (lcO N vs fi b s te) σ H Q) : tLc (rdI K W fi) (rdG K sl b) (rdT K WF s) (rdE K WF te) vs σ H Q :=
  lc_reads hsub h fun hr1 hn ex hb hr hD ra p => mk_doneO (ρ0 := []) hr1 hn ex hb hr hD ra p
section
variable {N : Nat} {elt tg iter : Expr} {ifs : List Expr} {scope : Scope} {own : List (Str × Nat)} {pos spos : Pos} {fi : FI}
/-- [elt for tg in iter if ..], a value -/
theorem de_lc (hc : X.calm = true) (hN : X.N.Nodup) (hi : DI X W tg iter fi) (ok : BlkOk X.N X.env.scope scope own)
    (hg : ∀ (s : Shared) (H : Hp) (C : Addr) (cl : List (Str × Addr)) (fp : List Addr), DG (X.blk s H scope (compEnvC scope cl C X.env) fp) sl tg b) (ht : ∀ (s' : Shared) (H : Hp) (C : Addr) (cl : List (Str × Addr)) (fp : List Addr), PTs (X.blk s' H scope (compEnvC scope cl C X.env) fp) ifs (rdT X.K WF s))
    (he : ∀ (s : Shared) (H : Hp) (C : Addr) (cl : List (Str × Addr)) (fp : List Addr), DE (X.blk s H scope (compEnvC scope cl C X.env) fp) WF elt te) (hsub : ∀ j ∈ sl, j ∈ own.map (·.2) := by decide) (hs : ∀ x, foldedSetIterable iter X.env x = pure x := by intro _; rfl) :
    DE X W (.ListComp elt [⟨tg, iter, ifs, 0⟩] scope pos) (lc N (own.map (·.2)) fi b s te) := PE.imp (pe_lc hc hN hi ok hg ht he hs) fun _ _ _ => lcV_reads hsub
theorem de_lcO (hc : X.calm = true) (hN : X.N.Nodup) (hi : DI X W tg iter fi) (ok : BlkOk X.N X.env.scope scope own)
    (hg : ∀ (s : Shared) (H : Hp) (C : Addr) (cl : List (Str × Addr)) (fp : List Addr), DG (X.blk s H scope (compEnvC scope cl C X.env) fp) sl tg b) (ht : ∀ (s' : Shared) (H : Hp) (C : Addr) (cl : List (Str × Addr)) (fp : List Addr), PTs (X.blk s' H scope (compEnvC scope cl C X.env) fp) ifs (rdT X.K WF s))
    (he : ∀ (s : Shared) (H : Hp) (C : Addr) (cl : List (Str × Addr)) (fp : List Addr), DE (X.blk s H scope (compEnvC scope cl C X.env) fp) WF elt te) (hsub : ∀ j ∈ sl, j ∈ own.map (·.2) := by decide) (hs : ∀ x, foldedSetIterable iter X.env x = pure x := by intro _; rfl) :
    DE X W (.ListComp elt [⟨tg, iter, ifs, 0⟩] scope pos) (lcO N (own.map (·.2)) fi b s te) := PE.imp (pe_lc hc hN hi ok hg ht he hs) fun _ _ _ => lcO_reads hsub
/-- name = [..] -/
theorem ds_setLc (i : Nat) {y : Str} {py : Pos} (hc : X.calm = true) (hN : X.N.Nodup) (hsw : swapsWith (.ListComp elt [⟨tg, iter, ifs, 0⟩] scope pos) (some (.Name y py)) spos.line X.env = pure true) (hi : DI X W tg iter fi) (ok : BlkOk X.N X.env.scope scope own)
    (hg : ∀ (s : Shared) (H : Hp) (C : Addr) (cl : List (Str × Addr)) (fp : List Addr), DG (X.blk s H scope (compEnvC scope cl C X.env) fp) sl tg b) (ht : ∀ (s' : Shared) (H : Hp) (C : Addr) (cl : List (Str × Addr)) (fp : List Addr), PTs (X.blk s' H scope (compEnvC scope cl C X.env) fp) ifs (rdT X.K WF s))
    (he : ∀ (s : Shared) (H : Hp) (C : Addr) (cl : List (Str × Addr)) (fp : List Addr), DE (X.blk s H scope (compEnvC scope cl C X.env) fp) WF elt te) (hsub : ∀ j ∈ sl, j ∈ own.map (·.2) := by decide) (hy : X.N[i]? = some y := by rfl) (hyl : X.env.scope.names.lookup y = some .local := by rfl) (hs : ∀ x, foldedSetIterable iter X.env x = pure x := by intro _; rfl) :
    DS X W (.Assign [.Name y py] (.ListComp elt [⟨tg, iter, ifs, 0⟩] scope pos) spos) (sAsg (lc N (own.map (·.2)) fi b s te) (bN i)) :=
  PS.imp (ps_setLc hc hN hy hyl hsw hi ok hg ht he hs) fun E σ H ⟨w, ρ, η, rel, p⟩ => lcV_reads hsub ((rdE_thenS rel p).imp fun v H1 ⟨w1, d, η1, e, rel1, rv, p1⟩ => p1 _ w1 H1 .refl ⟨rel1.env.set rv, rel1.heap⟩)
theorem ds_setLcO (i : Nat) {y : Str} {py : Pos} (hc : X.calm = true) (hN : X.N.Nodup) (hsw : swapsWith (.ListComp elt [⟨tg, iter, ifs, 0⟩] scope pos) (some (.Name y py)) spos.line X.env = pure true) (hi : DI X W tg iter fi) (ok : BlkOk X.N X.env.scope scope own)
    (hg : ∀ (s : Shared) (H : Hp) (C : Addr) (cl : List (Str × Addr)) (fp : List Addr), DG (X.blk s H scope (compEnvC scope cl C X.env) fp) sl tg b) (ht : ∀ (s' : Shared) (H : Hp) (C : Addr) (cl : List (Str × Addr)) (fp : List Addr), PTs (X.blk s' H scope (compEnvC scope cl C X.env) fp) ifs (rdT X.K WF s))
    (he : ∀ (s : Shared) (H : Hp) (C : Addr) (cl : List (Str × Addr)) (fp : List Addr), DE (X.blk s H scope (compEnvC scope cl C X.env) fp) WF elt te) (hsub : ∀ j ∈ sl, j ∈ own.map (·.2) := by decide) (hy : X.N[i]? = some y := by rfl) (hyl : X.env.scope.names.lookup y = some .local := by rfl) (hs : ∀ x, foldedSetIterable iter X.env x = pure x := by intro _; rfl) :
    DS X W (.Assign [.Name y py] (.ListComp elt [⟨tg, iter, ifs, 0⟩] scope pos) spos) (sAsg (lcO N (own.map (·.2)) fi b s te) (bN i)) :=
  PS.imp (ps_setLc hc hN hy hyl hsw hi ok hg ht he hs) fun E σ H ⟨w, ρ, η, rel, p⟩ => lcO_reads hsub ((rdE_thenS rel p).imp fun v H1 ⟨w1, d, η1, e, rel1, rv, p1⟩ => p1 _ w1 H1 .refl ⟨rel1.env.set rv, rel1.heap⟩)
theorem dts_nil : PTs X [] (rdT X.K W yes) := ⟨fun pins s σ H Q I ⟨w, ρ, η, rel, p⟩ => (pts_nil).run pins s σ H Q I (p true w H .refl rel.heap rfl)⟩
theorem dts_one {c : Expr} (h : DT X W c s) : PTs X [c] (rdT X.K W s) := pts_one h
end
end
end Dn
/-! Dn part 5: defs; what a call leaves is forgotten. -/
namespace Dn
open PySem PySem.Spec PyProof.Rows L2
/-- a def's body as a function -/
def runF (n : Nat) (b : FS) : FF := fun ds η => match b (ds.map some ++ List.replicate (n - ds.length) none) η with
  | .nx _ η => .ok .non η
  | .ret d η => .ok d η
  | .exc x _ η => .exc x η
  | _ => .no
section
variable {P : Program} {w : World} {K : PySem.W.Frag} {mg : Str → Option Value} {base : Heap} {x qual : Str} {params : Arguments} {body : List Stmt} {scope : Scope} {f : Addr} {fd : FuncData}
theorem envRel_start {wd : Wd} {H : Hp} {N : List Str} {vs : List V} {ds : List D} (r : RepVs K wd H vs ds) : EnvRel K wd (L2.start N vs) H (ds.map some ++ List.replicate (N.length - ds.length) none) := by
  refine ⟨by simp [L2.start, r.length], fun i d e => ?_⟩
  unfold L2.start
  by_cases hi : i < ds.length
  · rw [List.getElem?_append_left (by simpa using hi), List.getElem?_map] at e
    cases ed : ds[i]? with
    | none => rw [ed] at e; cases e
    | some d' =>
      rw [ed] at e
      cases e
      obtain ⟨v, ev, rv⟩ := r.get ed
      refine ⟨v, ?_, rv⟩
      rw [List.getElem?_append_left (by simpa [r.length] using hi), List.getElem?_map, ev]
      rfl
  · rw [List.getElem?_append_right (by simpa using hi), List.getElem?_replicate] at e
    split at e <;> cases e
theorem fn_ok {N ps : List Str} {k n : Nat} {b : FS} (F : FunD K x qual params body scope [] [] f fd) (S : FnScope N ps scope) (hn : ps.length = n)
    (hb : ∀ (cdv : Value) (A : Around) (outer : List PySem.Env) (s : Shared) (H : Hp) (E : XK), Room k (A.deeper (envOfC qual scope s.heap.objs.size f cdv)) →
      DSs (cxOf (L2N.CX P w) P w K mg base N qual scope f cdv A outer s H E) (fun c d _ H => E c d H) body b) :
    FnOk P w K mg base (L2N.CX P w) (k + 1) f fd ps (spD K n (runF N.length b)) := by
  refine F.ok S (spD.len hn) fun cdv A outer s H vs Q E hr ⟨wd, η, ds, hh, rv, hl, p⟩ => ⟨_, hb cdv A outer s H E hr, ?_⟩
  refine ⟨wd, _, η, ⟨envRel_start rv, hh⟩, ?_⟩
  unfold runF at p
  cases e : b (ds.map some ++ List.replicate (N.length - ds.length) none) η with
  | nx ρ η' => rw [e] at p; exact fun σ' w' H' e' r => p .non w' H' e' r.heap .non
  | ret d η' => rw [e] at p; exact p
  | exc x ρ η' => rw [e] at p; exact fun c d σ' w' H' e' r rx => p c d w' H' e' r.heap rx
  | brk ρ η' => rw [e] at p; exact p.elim
  | cnt ρ η' => rw [e] at p; exact p.elim
  | no => rw [e] at p; exact p.elim
end

/-! ### trimming -/
mutual
/-- no thing of the store from n on is named -/
def D.low (n : Nat) : D → Bool
  | .obj i => decide (i < n)
  | .tup xs => D.lows n xs
  | .lst xs => D.lows n xs
  | .scr xs => D.lows n xs
  | _ => true
def D.lows (n : Nat) : List D → Bool
  | [] => true
  | x :: xs => D.low n x && D.lows n xs
end
def O.low (n : Nat) : O → Bool
  | .lst xs => D.lows n xs
  | .dK kvs => D.lows n (kvs.map (·.2))
  | .dT kvs => D.lows n (kvs.map (·.2))
  | .ins _ fs => D.lows n (fs.map (·.2))
  | .lkK _ _ fs => D.lows n (fs.map (·.2))
  | .lkT _ _ fs => D.lows n (fs.map (·.2))
abbrev Wd.cut (w : Wd) (n : Nat) : Wd := ⟨w.io.take n, w.bz⟩
section
variable {K : PySem.W.Frag} {w w1 w2 w' : Wd} {H H1 H2 H' : Hp} {η η' : Store} {n : Nat} {a : Addr}
theorem not_take {n : Nat} (h : a ∉ w.io) : a ∉ (w.cut n).io := fun z => h (List.mem_of_mem_take z)
mutual
theorem RepV.cut (n : Nat) : ∀ {v : V} {d : D}, RepV K w H v d → D.low n d = true → RepV K (w.cut n) H v d
  | _, _, .non, _ => .non
  | _, _, .bl b, _ => .bl b
  | _, _, .int i, _ => .int i
  | _, _, .str x, _ => .str x
  | _, _, .tup h hs, l => .tup ⟨h.1, not_take h.2.1, h.2.2⟩ (RepVs.cut n hs (by simpa [D.low] using l))
  | _, _, .lst h hs, l => .lst ⟨h.1, not_take h.2.1, h.2.2⟩ (RepVs.cut n hs (by simpa [D.low] using l))
  | _, _, .scr h hs, l => .scr (by
      rcases h with ⟨h, m, b⟩ | h
      · exact .inl ⟨h, not_take m, b⟩
      · exact .inr h) (RepVs.cut n hs (by simpa [D.low] using l))
  | _, _, .obj (i := i) h, l => .obj (by
      have hi : i < n := by simpa [D.low] using l
      show (w.io.take n)[i]? = _
      rw [List.getElem?_take_of_lt hi]; exact h)
  | _, _, .gl x, _ => .gl x
  | _, _, .ty m, _ => .ty m
  | _, _, .adr a, _ => .adr a
theorem RepVs.cut (n : Nat) : ∀ {vs : List V} {ds : List D}, RepVs K w H vs ds → D.lows n ds = true → RepVs K (w.cut n) H vs ds
  | _, _, .nil, _ => .nil
  | _, _, .cons h hs, l => by
    have l' := Bool.and_eq_true_iff.mp (show (D.low n _ && D.lows n _) = true from l)
    exact .cons (RepV.cut n h l'.1) (RepVs.cut n hs l'.2)
end
theorem RepO.cut {o : O} (n : Nat) (h : RepO K w H a o) (l : o.low n = true) : RepO K (w.cut n) H a o := by
  cases o with
  | lst ds => obtain ⟨xs, f, r⟩ := h; exact ⟨xs, f, r.cut n l⟩
  | dK ds => obtain ⟨xs, f, r⟩ := h; exact ⟨xs, f, r.1, r.2.cut n l⟩
  | dT ds => obtain ⟨xs, f, r⟩ := h; exact ⟨xs, f, r.1, r.2.cut n l⟩
  | ins c ds => obtain ⟨dx, xs, f, r⟩ := h; exact ⟨dx, xs, f, r.1, r.2.cut n l⟩
  | lkK od xs ds => exact ⟨h.1, h.2.1, h.2.2.cut n l⟩
  | lkT od xs ds => exact ⟨h.1, h.2.1, h.2.2.cut n l⟩
/-- what is told of things of the world ahead stays so in the cut world -/
theorem cut_pre (e : Ext w H w' H') (hn : n = w.io.length) : (w'.cut n).io = w.io := by
  obtain ⟨t, f⟩ := e.pre
  show w'.io.take n = w.io
  rw [f, hn, List.take_left']
  rfl
/-- a store behind a call: each old thing is as it was, or names old things alone -/
def keepS (η η' : Store) : Prop := ∀ i o, i < η.length → η'[i]? = some o → η[i]? = some o ∨ o.low η.length = true
mutual
theorem RepV.isLow : ∀ {v : V} {d : D}, RepV K w H v d → D.low w.io.length d = true
  | _, _, .non => rfl
  | _, _, .bl b => rfl
  | _, _, .int i => rfl
  | _, _, .str x => rfl
  | _, _, .tup h hs => RepVs.isLow hs
  | _, _, .lst h hs => RepVs.isLow hs
  | _, _, .scr h hs => RepVs.isLow hs
  | _, _, .obj h => decide_eq_true (List.getElem?_eq_some_iff.mp h).1
  | _, _, .gl x => rfl
  | _, _, .ty m => rfl
  | _, _, .adr a => rfl
theorem RepVs.isLow : ∀ {vs : List V} {ds : List D}, RepVs K w H vs ds → D.lows w.io.length ds = true
  | _, _, .nil => rfl
  | _, _, .cons h hs => Bool.and_eq_true_iff.mpr ⟨RepV.isLow h, RepVs.isLow hs⟩
end
theorem RepO.isLow {o : O} (h : RepO K w H a o) : o.low w.io.length = true := by
  cases o with
  | lst ds => obtain ⟨xs, f, r⟩ := h; exact r.isLow
  | dK ds => obtain ⟨xs, f, r⟩ := h; exact r.2.isLow
  | dT ds => obtain ⟨xs, f, r⟩ := h; exact r.2.isLow
  | ins c ds => obtain ⟨dx, xs, f, r⟩ := h; exact r.2.isLow
  | lkK od xs ds => exact h.2.2.isLow
  | lkT od xs ds => exact h.2.2.isLow
/-- the world behind a call, cut to the things that stood ahead -/
theorem HeapRel.cut (hr : HeapRel K w H η) (e : Ext w H w' H') (hr' : HeapRel K w' H' η') (k : keepS η η') : HeapRel K (w'.cut η.length) H' (η'.take η.length) := by
  obtain ⟨t, f⟩ := e.pre
  have hl : η.length ≤ w'.io.length := by rw [f, List.length_append, hr.len]; omega
  have hl' : η.length ≤ η'.length := by rw [← hr'.len]; exact hl
  refine ⟨by simp [hr'.len], (List.take_sublist _ _).nodup hr'.nd, fun i b o hb ho => ?_, fun b hb => ⟨not_take (hr'.bz b hb).1, (hr'.bz b hb).2⟩, hr'.tb⟩
  by_cases hi : i < η.length
  · rw [List.getElem?_take_of_lt hi] at ho
    have hb' : w'.io[i]? = some b := by
      have : (w'.io.take η.length)[i]? = some b := hb
      rw [List.getElem?_take_of_lt hi] at this; exact this
    have r := hr'.at_ i b o hb' ho
    refine r.cut _ ?_
    rcases k i o hi ho with h | h
    · have hw : w.io[i]? = some b := by
        rw [f, List.getElem?_append_left (by rw [hr.len]; exact hi)] at hb'; exact hb'
      have := (hr.at_ i b o hw h).isLow
      rw [hr.len] at this; exact this
    · exact h
  · rw [List.getElem?_eq_none (by simp; omega)] at ho; cases ho
theorem Ext.cut (hr : HeapRel K w H η) (e : Ext w H w' H') : Ext w H (w'.cut η.length) H' :=
  ⟨⟨⟨[], by rw [cut_pre e hr.len.symm]; simp⟩, fun c o h k m n => let ⟨a1, a2, a3⟩ := e.keep c o h k m n; ⟨a1, not_take a2, a3⟩⟩, e.bz⟩
/-- an answer in the cut world: a new list is told by value from now on -/
def cutD (n : Nat) (η' : Store) : D → Option D
  | .obj i => if i < n then some (.obj i) else match η'[i]? with
    | some (.lst xs) => if D.lows n xs = true then some (.lst xs) else none
    | _ => none
  | d => if D.low n d = true then some d else none
theorem cutD_ok {v : V} {d d' : D} (hr' : HeapRel K w' H' η') (rv : RepV K w' H' v d) (h : cutD n η' d = some d') : RepV K (w'.cut n) H' v d' := by
  cases d with
  | obj i =>
    cases rv with | obj hb => ?_
    rename_i b
    dsimp only [cutD] at h
    split at h
    · rename_i hi
      cases h
      exact (RepV.obj hb).cut n (decide_eq_true hi)
    · rename_i hi
      split at h
      · rename_i xs eo
        split at h
        · rename_i hl
          cases h
          obtain ⟨ys, eH, r⟩ := hr'.at_ _ _ _ hb eo
          refine .lst ⟨eH, fun z => ?_, fun z => (hr'.bz b z).1 (List.mem_of_getElem? hb)⟩ (r.cut n hl)
          obtain ⟨j, hj, ej⟩ := List.getElem_of_mem z
          have hj' : j < n := by
            have : j < (w'.io.take n).length := hj
            simp at this; omega
          have e1 : w'.io[j]? = some b := by
            have : (w'.io.take n)[j]? = some b := by rw [List.getElem?_eq_getElem hj, ej]
            rw [List.getElem?_take_of_lt hj'] at this; exact this
          have := ix_nd hr'.nd e1 hb
          omega
        · cases h
      · cases h
  | _ =>
    dsimp only [cutD] at h
    split at h
    · rename_i hl
      cases h
      exact rv.cut n hl
    · cases h
/-- seen by a look -/
def keepB (η η' : Store) : Bool := (η'.take η.length).all (O.low η.length)
theorem keepB_ok {η η' : Store} (h : keepB η η' = true) : keepS η η' := fun i o hi e => .inr (List.all_eq_true.mp h o (List.mem_of_getElem? (show (η'.take η.length)[i]? = some o by rw [List.getElem?_take_of_lt hi]; exact e)))
noncomputable instance (η η' : Store) : Decidable (keepS η η') := if h : keepB η η' = true then isTrue (keepB_ok h) else Classical.propDecidable _
/-- what a call made is forgotten -/
noncomputable def trimR (η : Store) : R D → R D
  | .ok d η' => if keepS η η' then (match cutD η.length η' d with
    | some d' => .ok d' (η'.take η.length)
    | none => .ok d η') else .ok d η'
  | .exc ⟨c, none⟩ η' => if keepS η η' then .exc ⟨c, none⟩ (η'.take η.length) else .exc ⟨c, none⟩ η'
  | r => r
noncomputable def trimF (F : FF) : FF := fun ds η => trimR η (F ds η)
theorem trim_post {Q : VK} {E : XK} {r : R D} (hr : HeapRel K w H η) (p : Post K (RepV K) w H Q E (trimR η r)) : Post K (RepV K) w H Q E r := by
  cases r with
  | ok d η' =>
    dsimp only [trimR] at p
    split at p
    · rename_i k
      split at p
      · rename_i d' ed
        exact fun v w' H' e hr' rv => p v _ H' (e.cut hr) (hr.cut e hr' k) (cutD_ok hr' rv ed)
      · exact p
    · exact p
  | exc x η' =>
    obtain ⟨c, fs⟩ := x
    cases fs with
    | none =>
      dsimp only [trimR] at p
      split at p
      · rename_i k
        exact fun cl d w' H' e hr' rx => p cl d _ H' (e.cut hr) (hr.cut e hr' k) rx
      · exact p
    | some fs => exact p
  | no => exact p
theorem fn_trim {P : Program} {wl : World} {K : PySem.W.Frag} {mg : Str → Option Value} {base : Heap} {CX : CXT} {k n : Nat} {f : Addr} {fd : FuncData} {ps : List Str} {F : FF} (h : FnOk P wl K mg base CX k f fd ps (spD K n F)) :
    FnOk P wl K mg base CX k f fd ps (spD K n (trimF F)) :=
  h.imp fun vs H Q E ⟨w, η, ds, hr, rv, hl, p⟩ => ⟨w, η, ds, hr, rv, hl, trim_post hr p⟩
end
/-- for reckoning -/
theorem keepS_refl (η : Store) : keepS η η := fun i o _ h => .inl h
theorem keepS_app (η g : Store) : keepS η (η ++ g) := fun i o hi h => .inl (by rwa [List.getElem?_append_left hi] at h)
theorem keepS_set (η g : Store) (i : Nat) (o : O) (h : o.low η.length = true) : keepS η (η.set i o ++ g) := fun j u hj e => by
  rw [List.getElem?_append_left (by simpa using hj), List.getElem?_set] at e
  split at e
  · split at e
    · cases e; exact .inr h
    · cases e
  · exact .inl e
theorem keepS_set' (η : Store) (i : Nat) (o : O) (h : o.low η.length = true) : keepS η (η.set i o) := by simpa using keepS_set η [] i o h
end Dn
/-! Dn part 6: operations on data. -/
namespace Dn
open PySem PySem.Spec PyProof.Rows L2
section
variable {X : Cx} {W : WX} {K : PySem.W.Frag} {w w' : Wd} {H H' : Hp} {η η' : Store}
theorem op_of {f : Value → Value → Sem Value} {r : R2} {g : G2} (ho : OpR X f r)
    (m : ∀ {x y H} {Q : VK} {w η d1 d2 z η'}, HeapRel X.K w H η → RepV X.K w H x d1 → RepV X.K w H y d2 → g d1 d2 η = some (z, η') → (∀ v w' H', Ext w H w' H' → HeapRel X.K w' H' η' → RepV X.K w' H' v z → Q v H') → r x y H Q) : OpR X f (rd2 X.K g) := by
  intro pins s σ H x y v u Q I rx ry ⟨w, η, d1, d2, hr, r1, r2, p⟩
  cases e : g d1 d2 η with
  | none => rw [e] at p; exact p.elim
  | some q =>
    obtain ⟨z, η'⟩ := q
    rw [e] at p
    exact ho pins s σ H x y v u Q I rx ry (m hr r1 r2 e p)
theorem un_of {f : Value → Sem Value} {r : V → Hp → VK → Prop} {g : G1} (ho : UnR X f r)
    (m : ∀ {x H} {Q : VK} {w η d z η'}, HeapRel X.K w H η → RepV X.K w H x d → g d η = some (z, η') → (∀ v w' H', Ext w H w' H' → HeapRel X.K w' H' η' → RepV X.K w' H' v z → Q v H') → r x H Q) : UnR X f (rd1 X.K g) := by
  intro pins s σ H x v Q I rx ⟨w, η, d, hr, r1, p⟩
  cases e : g d η with
  | none => rw [e] at p; exact p.elim
  | some q =>
    obtain ⟨z, η'⟩ := q
    rw [e] at p
    exact ho pins s σ H x v Q I rx (m hr r1 e p)
theorem call_of {f : Value} {r : List V → Hp → VK → Prop} {g : GL} (ho : CallR X f r)
    (m : ∀ {xs H} {Q : VK} {w η ds z η'}, HeapRel X.K w H η → RepVs X.K w H xs ds → g ds η = some (z, η') → (∀ v w' H', Ext w H w' H' → HeapRel X.K w' H' η' → RepV X.K w' H' v z → Q v H') → r xs H Q) : CallR X f (rdL X.K g) := by
  intro pins s σ H xs us Q I rx ⟨w, η, ds, hr, r1, p⟩
  cases e : g ds η with
  | none => rw [e] at p; exact p.elim
  | some q =>
    obtain ⟨z, η'⟩ := q
    rw [e] at p
    exact ho pins s σ H xs us Q I rx (m hr r1 e p)
theorem ix_of {r : R2} {g : G2} (ho : IxR X r)
    (m : ∀ {x y H} {Q : VK} {w η d1 d2 z η'}, HeapRel X.K w H η → RepV X.K w H x d1 → RepV X.K w H y d2 → g d1 d2 η = some (z, η') → (∀ v w' H', Ext w H w' H' → HeapRel X.K w' H' η' → RepV X.K w' H' v z → Q v H') → r x y H Q) : IxR X (rd2 X.K g) := by
  intro value slice pins s σ H x y v u Q I rx ry ⟨w, η, d1, d2, hr, r1, r2, p⟩ hs
  cases e : g d1 d2 η with
  | none => rw [e] at p; exact p.elim
  | some q =>
    obtain ⟨z, η'⟩ := q
    rw [e] at p
    exact ho value slice pins s σ H x y v u Q I rx ry (m hr r1 r2 e p) hs
theorem sl_of {r : V → Option Int → Option Int → Hp → VK → Prop} {g : GS} (ho : SlR X r)
    (m : ∀ {x lo hi H} {Q : VK} {w η d z η'}, HeapRel X.K w H η → RepV X.K w H x d → g d lo hi η = some (z, η') → (∀ v w' H', Ext w H w' H' → HeapRel X.K w' H' η' → RepV X.K w' H' v z → Q v H') → r x lo hi H Q) : SlR X (rdSl X.K g) := by
  intro pins s σ H x v vl vu lo hi sl Q I rx hs p1 p2 ⟨w, η, d, hr, r1, p⟩
  cases e : g d lo hi η with
  | none => rw [e] at p; exact p.elim
  | some q =>
    obtain ⟨z, η'⟩ := q
    rw [e] at p
    exact ho pins s σ H x v vl vu lo hi sl Q I rx hs p1 p2 (m hr r1 e p)
/-- the items of a list (by value, or a thing), a tuple -/
def lstOf : D → Store → Option (List D)
  | .lst xs, _ => some xs
  | .obj i, η => match η[i]? with
    | some (.lst xs) => some xs
    | _ => none
  | _, _ => none
theorem lstOf_ok {v : V} {d : D} {ds : List D} (hr : HeapRel K w H η) (rv : RepV K w H v d) (h : lstOf d η = some ds) : ∃ a xs, v = .ref a ∧ H a = some (.lst xs) ∧ RepVs K w H xs ds := by
  cases d with
  | lst xs => cases rv with | lst s r => cases h; exact ⟨_, _, rfl, s.1, r⟩
  | obj i =>
    cases rv with | obj ha => ?_
    dsimp only [lstOf] at h
    split at h
    · rename_i xs eo
      cases h
      obtain ⟨ys, e, r⟩ := hr.at_ _ _ _ ha eo
      exact ⟨_, _, rfl, e, r⟩
    · cases h
  | _ => cases h
/-- .. or the script -/
def seqL : D → Store → Option (List D)
  | .lst xs, _ => some xs
  | .scr xs, _ => some xs
  | .obj i, η => match η[i]? with
    | some (.lst xs) => some xs
    | _ => none
  | _, _ => none
theorem seqL_ok {v : V} {d : D} {ds : List D} (hr : HeapRel K w H η) (rv : RepV K w H v d) (h : seqL d η = some ds) : ∃ a xs, v = .ref a ∧ SqL K H a xs ∧ RepVs K w H xs ds := by
  cases d with
  | lst xs => cases rv with | lst s r => cases h; exact ⟨_, _, rfl, s.sq, r⟩
  | scr xs => cases rv with | scr s r => cases h; exact ⟨_, _, rfl, s.sq, r⟩
  | obj i =>
    cases rv with | obj ha => ?_
    dsimp only [seqL] at h
    split at h
    · rename_i xs eo
      cases h
      obtain ⟨ys, e, r⟩ := hr.at_ _ _ _ ha eo
      exact ⟨_, _, rfl, SqL.of e, r⟩
    · cases h
  | _ => cases h
theorem val_of {Q : VK} {z : D} {v : V} (p : ∀ v w' H', Ext w H w' H' → HeapRel K w' H' η → RepV K w' H' v z → Q v H') (hr : HeapRel K w H η) (rv : RepV K w H v z) : Q v H := p v w H .refl hr rv
theorem tup_of {Q : VK} {xs : List V} {ds : List D} (p : ∀ v w' H', Ext w H w' H' → HeapRel K w' H' η → RepV K w' H' v (.tup ds) → Q v H') (hr : HeapRel K w H η) (r : RepVs K w H xs ds) {q : Addr} (hq : H q = none) : Q (.ref q) (upd H q (.tup xs)) :=
  p _ w _ (Ext.laid hq hr) (hr.laid hq) (.newT hr r hq)
theorem lst_of {Q : VK} {xs : List V} {ds : List D} (p : ∀ v w' H', Ext w H w' H' → HeapRel K w' H' η → RepV K w' H' v (.lst ds) → Q v H') (hr : HeapRel K w H η) (r : RepVs K w H xs ds) {q : Addr} (hq : H q = none) : Q (.ref q) (upd H q (.lst xs)) :=
  p _ w _ (Ext.laid hq hr) (hr.laid hq) (.newL hr r hq)
theorem obj_of {Q : VK} {xs : List V} {ds : List D} (p : ∀ v w' H', Ext w H w' H' → HeapRel K w' H' (η ++ [.lst ds]) → RepV K w' H' v (.obj η.length) → Q v H') (hr : HeapRel K w H η) (r : RepVs K w H xs ds) {q : Addr} (hq : H q = none) : Q (.ref q) (upd H q (.lst xs)) :=
  p _ _ _ (Ext.more hq hr) (hr.newO r hq) (.obj (hr.ixO q))

/-! ### + -/
def addD : G2 := fun x y η => match x, y with
  | .int i, .int j => some (.int (i + j), η)
  | .str a, .str b => if a.length + b.length ≤ sizeLine then some (.str (a ++ b), η) else none
  | .tup a, .tup b => if a.length + b.length ≤ sizeLine then some (.tup (a ++ b), η) else none
  | x, y => match lstOf x η, lstOf y η with
    | some a, some b => if a.length + b.length ≤ sizeLine then some (.lst (a ++ b), η) else none
    | _, _ => none
theorem addD_lst {x y : D} {z : D} {η η' : Store} (h : addD x y η = some (z, η')) :
    (∃ i j, x = .int i ∧ y = .int j ∧ z = .int (i + j) ∧ η' = η) ∨ (∃ a b, x = .str a ∧ y = .str b ∧ a.length + b.length ≤ sizeLine ∧ z = .str (a ++ b) ∧ η' = η) ∨
    (∃ a b, x = .tup a ∧ y = .tup b ∧ a.length + b.length ≤ sizeLine ∧ z = .tup (a ++ b) ∧ η' = η) ∨ (∃ a b, lstOf x η = some a ∧ lstOf y η = some b ∧ a.length + b.length ≤ sizeLine ∧ z = .lst (a ++ b) ∧ η' = η) := by
  unfold addD at h
  split at h
  · cases h; exact .inl ⟨_, _, rfl, rfl, rfl, rfl⟩
  · split at h
    · rename_i hl; cases h; exact .inr (.inl ⟨_, _, rfl, rfl, hl, rfl, rfl⟩)
    · cases h
  · split at h
    · rename_i hl; cases h; exact .inr (.inr (.inl ⟨_, _, rfl, rfl, hl, rfl, rfl⟩))
    · cases h
  · split at h
    · rename_i e1 e2
      split at h
      · rename_i hl; cases h; exact .inr (.inr (.inr ⟨_, _, e1, e2, hl, rfl, rfl⟩))
      · cases h
    · cases h
theorem opD_add : OpR X (binaryOp .Add) (rd2 X.K addD) :=
  op_of (OpR.or op_add (OpR.or op_add_str (OpR.or op_catA op_cat))) fun hr r1 r2 h p => by
    rcases addD_lst h with ⟨i, j, rfl, rfl, rfl, rfl⟩ | ⟨a, b, rfl, rfl, hl, rfl, rfl⟩ | ⟨a, b, rfl, rfl, hl, rfl, rfl⟩ | ⟨a, b, e1, e2, hl, rfl, rfl⟩
    · cases r1; cases r2
      exact .inl ⟨_, _, rfl, rfl, val_of p hr (.int _)⟩
    · cases r1; cases r2
      exact .inr (.inl ⟨_, _, rfl, rfl, hl, val_of p hr (.str _)⟩)
    · cases r1 with | tup s1 q1 => ?_
      cases r2 with | tup s2 q2 => ?_
      refine .inr (.inr (.inl ⟨_, _, _, _, rfl, rfl, s1.sq, s2.sq, by rw [q1.length, q2.length]; exact hl, fun e => ?_, fun _ e => ?_, fun _ _ q hq => tup_of p hr (q1.append q2) hq⟩))
      · subst e; cases q1; exact val_of p hr (.tup s2 q2)
      · subst e; cases q2; exact val_of p hr (.tup s1 (by rw [List.append_nil]; exact q1))
    · obtain ⟨a1, xs, rfl, h1, q1⟩ := lstOf_ok hr r1 e1
      obtain ⟨a2, ys, rfl, h2, q2⟩ := lstOf_ok hr r2 e2
      exact .inr (.inr (.inr ⟨_, _, _, _, rfl, rfl, h1, h2, by rw [q1.length, q2.length]; exact hl, fun q hq => lst_of p hr (q1.append q2) hq⟩))
/-! ### intsOf -/
def subD : G2 := fun x y η => match x, y with
  | .int i, .int j => some (.int (i - j), η)
  | _, _ => none
theorem opD_sub : OpR X (binaryOp .Sub) (rd2 X.K subD) := op_of op_sub fun hr r1 r2 h p => by
  unfold subD at h
  split at h
  · cases h; cases r1; cases r2; exact ⟨_, _, rfl, rfl, val_of p hr (.int _)⟩
  · cases h
def mulOk (i j : Int) : Prop := CMul i j ∨ CMulW i j
instance (i j : Int) : Decidable (mulOk i j) := by unfold mulOk CMul CMulW; infer_instance
theorem RepVs.rep {K : PySem.W.Frag} {w : Wd} {H : Hp} {vs : List V} {ds : List D} (r : RepVs K w H vs ds) : ∀ n : Nat, RepVs K w H (List.replicate n vs).flatten (List.replicate n ds).flatten
  | 0 => .nil
  | n + 1 => by
    rw [List.replicate_succ, List.replicate_succ, List.flatten_cons, List.flatten_cons]
    exact r.append (RepVs.rep r n)
def mulD : G2 := fun x y η => match x, y with
  | .int i, .int j => if mulOk i j then some (.int (i * j), η) else none
  | .tup xs, .int j => if 0 < xs.length ∧ 2 ≤ j ∧ j ≤ 1000 ∧ xs.length ≤ 1000 then some (.tup (List.replicate j.toNat xs).flatten, η) else none
  | x, .int j => (match lstOf x η with
    | some xs => if -(2 ^ 63) ≤ j ∧ j < 2 ^ 63 ∧ xs.length * j.toNat ≤ sizeLine then some (.lst (List.replicate j.toNat xs).flatten, η) else none
    | none => none)
  | _, _ => none
theorem opD_mul : OpR X (binaryOp .Mult) (rd2 X.K mulD) := op_of (OpR.or op_mul (OpR.or op_mulW (OpR.or op_repT op_rep))) fun hr r1 r2 h p => by
  unfold mulD at h
  split at h
  · split at h
    · rename_i hm
      cases h; cases r1; cases r2
      rcases hm with hm | hm
      · exact .inl ⟨_, _, rfl, rfl, hm, val_of p hr (.int _)⟩
      · exact .inr (.inl ⟨_, _, rfl, rfl, hm, val_of p hr (.int _)⟩)
    · cases h
  · split at h
    · rename_i hm
      obtain ⟨h1, h2, h3, h4⟩ := hm
      cases h; cases r2
      cases r1 with | tup s1 q1 => ?_
      exact .inr (.inr (.inl ⟨_, _, _, rfl, rfl, s1.sq, (fun e => by subst e; cases q1; simp at h1), h2, h3, by rw [q1.length]; exact h4, fun q hq => tup_of p hr (q1.rep _) hq⟩))
    · cases h
  · split at h
    · rename_i e1
      split at h
      · rename_i hm
        obtain ⟨h1, h2, h3⟩ := hm
        cases h; cases r2
        obtain ⟨a1, xs, rfl, hh, q1⟩ := lstOf_ok hr r1 e1
        exact .inr (.inr (.inr ⟨_, _, _, rfl, rfl, hh, h1, h2, by rw [q1.length]; exact h3, fun q hq => lst_of p hr (q1.rep _) hq⟩))
      · cases h
    · cases h
  · cases h
def divOk (j : Int) : Prop := 0 < j ∧ (j < 1073741824 ∨ j.natAbs.log2 < 9000)
instance (j : Int) : Decidable (divOk j) := by unfold divOk; infer_instance
def fdivD : G2 := fun x y η => match x, y with
  | .int i, .int j => if divOk j then some (.int (i / j), η) else none
  | _, _ => none
theorem opD_fdiv : OpR X (binaryOp .FloorDiv) (rd2 X.K fdivD) := op_of (OpR.or op_fdiv op_fdivW) fun hr r1 r2 h p => by
  unfold fdivD at h
  split at h
  · split at h
    · rename_i hm
      cases h; cases r1; cases r2
      obtain ⟨h0, hm⟩ := hm
      rcases hm with hm | hm
      · exact .inl ⟨_, _, rfl, rfl, ⟨h0, hm⟩, val_of p hr (.int _)⟩
      · exact .inr ⟨_, _, rfl, rfl, ⟨h0, hm⟩, val_of p hr (.int _)⟩
    · cases h
  · cases h
def modD : G2 := fun x y η => match x, y with
  | .int i, .int j => if 0 < j then some (.int (i % j), η) else none
  | _, _ => none
theorem opD_mod : OpR X (binaryOp .Mod) (rd2 X.K modD) := op_of op_mod fun hr r1 r2 h p => by
  unfold modD at h
  split at h
  · split at h
    · rename_i hm
      cases h; cases r1; cases r2
      exact ⟨_, _, rfl, rfl, hm, val_of p hr (.int _)⟩
    · cases h
  · cases h
def powD : G2 := fun x y η => match x, y with
  | .int i, .int j => if 0 ≤ j ∧ j ≤ 1000000 ∧ i.natAbs < 2 ^ 64 then some (.int (i ^ j.toNat), η) else none
  | _, _ => none
theorem opD_pow : OpR X (binaryOp .Pow) (rd2 X.K powD) := op_of op_pow fun hr r1 r2 h p => by
  unfold powD at h
  split at h
  · split at h
    · rename_i hm
      cases h; cases r1; cases r2
      exact ⟨_, _, rfl, rfl, hm, val_of p hr (.int _)⟩
    · cases h
  · cases h
def negD : G1 := fun x η => match x with
  | .int i => some (.int (-i), η)
  | _ => none
theorem unD_neg : UnR X (unaryOp .USub) (rd1 X.K negD) := un_of un_neg fun hr r1 h p => by
  unfold negD at h
  split at h
  · cases h; cases r1; exact ⟨_, rfl, val_of p hr (.int _)⟩
  · cases h
theorem iopD_add : OpR X (inplaceOp .Add) (rd2 X.K fun x y η => match x, y with
  | .int i, .int j => some (.int (i + j), η)
  | .str a, .str b => if a.length + b.length ≤ sizeLine then some (.str (a ++ b), η) else none
  | _, _ => none) := op_of (OpR.or iop_add iop_add_str) fun hr r1 r2 h p => by
  split at h
  · cases h; cases r1; cases r2; exact .inl ⟨_, _, rfl, rfl, val_of p hr (.int _)⟩
  · split at h
    · rename_i hl; cases h; cases r1; cases r2; exact .inr ⟨_, _, rfl, rfl, hl, val_of p hr (.str _)⟩
    · cases h
  · cases h
theorem iopD_sub : OpR X (inplaceOp .Sub) (rd2 X.K subD) := op_of iop_sub fun hr r1 r2 h p => by
  unfold subD at h
  split at h
  · cases h; cases r1; cases r2; exact ⟨_, _, rfl, rfl, val_of p hr (.int _)⟩
  · cases h
/-! ### order -/
def cmpI (p : Int → Int → Bool) : G2 := fun x y η => match x, y with
  | .int i, .int j => some (.bl (p i j), η)
  | _, _ => none
theorem opD_cmpI {op : CmpOp} {p : Int → Int → Bool} (ho : OpR X (compareOp op) (rI0 fun i j => .bl (p i j))) : OpR X (compareOp op) (rd2 X.K (cmpI p)) := op_of ho fun hr r1 r2 h q => by
  unfold cmpI at h
  split at h
  · cases h; cases r1; cases r2; exact ⟨_, _, rfl, rfl, val_of q hr (.bl _)⟩
  · cases h
abbrev ltI : G2 := cmpI fun i j => decide (i < j)
abbrev leI : G2 := cmpI fun i j => decide (i ≤ j)
abbrev gtI : G2 := cmpI fun i j => decide (j < i)
abbrev geI : G2 := cmpI fun i j => decide (j ≤ i)
theorem opD_lt : OpR X (compareOp .Lt) (rd2 X.K ltI) := opD_cmpI op_lt
theorem opD_le : OpR X (compareOp .LtE) (rd2 X.K leI) := opD_cmpI op_le
theorem opD_gt : OpR X (compareOp .Gt) (rd2 X.K gtI) := opD_cmpI op_gt
theorem opD_ge : OpR X (compareOp .GtE) (rd2 X.K geI) := opD_cmpI op_ge
/-! ### is -/
def isNon : D → Bool
  | .non => true
  | _ => false
def isD : G2 := fun x y η => match y with
  | .non => some (.bl (isNon x), η)
  | .bl b => match x with
    | .bl a => some (.bl (decide (a = b)), η)
    | _ => none
  | _ => none
def isNotD : G2 := fun x y η => match y with
  | .non => some (.bl (!isNon x), η)
  | .bl b => match x with
    | .bl a => some (.bl (!decide (a = b)), η)
    | _ => none
  | _ => none
theorem non_iff {v : V} {d : D} (r : RepV K w H v d) : decide (v = .non) = isNon d := by
  cases r <;> rfl
theorem opD_is : OpR X (compareOp .Is) (rd2 X.K isD) := op_of (OpR.or op_isN op_isBl) fun hr r1 r2 h p => by
  unfold isD at h
  split at h
  · cases h; cases r2; exact .inl ⟨rfl, by rw [non_iff r1]; exact val_of p hr (.bl _)⟩
  · split at h
    · cases h; cases r1; cases r2; exact .inr ⟨_, _, rfl, rfl, val_of p hr (.bl _)⟩
    · cases h
  · cases h
theorem opD_isNot : OpR X (compareOp .IsNot) (rd2 X.K isNotD) := op_of (OpR.or op_notN op_notBl) fun hr r1 r2 h p => by
  unfold isNotD at h
  split at h
  · cases h; cases r2; exact .inl ⟨rfl, by rw [non_iff r1]; exact val_of p hr (.bl _)⟩
  · split at h
    · cases h; cases r1; cases r2; exact .inr ⟨_, _, rfl, rfl, val_of p hr (.bl _)⟩
    · cases h
  · cases h
/-! ### == -/
mutual
/-- plain data, no thing that may change within -/
def pd0 : D → Option PyData
  | .non => some .none
  | .bl b => some (.bool b)
  | .int i => some (.int i)
  | .str x => some (.str x)
  | .tup xs => (pds0 xs).map .tuple
  | .lst xs => (pds0 xs).map .list
  | _ => none
def pds0 : List D → Option (List PyData)
  | [] => some []
  | x :: xs => match pd0 x, pds0 xs with
    | some d, some ds => some (d :: ds)
    | _, _ => none
end
def pd (d : D) (η : Store) : Option PyData := match d with
  | .obj i => (match η[i]? with
    | some (.lst xs) => (pds0 xs).map .list
    | _ => none)
  | d => pd0 d
mutual
theorem pd0_ok : ∀ {v : V} {d : D} {q : PyData}, RepV K w H v d → pd0 d = some q → Dp K H v q
  | _, _, _, .non, h => by cases h; exact .non
  | _, _, _, .bl b, h => by cases h; exact .bl b
  | _, _, _, .int i, h => by cases h; exact .int i
  | _, _, _, .str x, h => by cases h; exact .str x
  | _, _, _, .tup (ds := ds) s r, h => by
    have h' : (pds0 ds).map PyData.tuple = some _ := h
    cases e : pds0 ds with
    | none => rw [e] at h'; cases h'
    | some qs => rw [e] at h'; cases h'; exact .tup s.sq (pds0_ok r e)
  | _, _, _, .lst (ds := ds) s r, h => by
    have h' : (pds0 ds).map PyData.list = some _ := h
    cases e : pds0 ds with
    | none => rw [e] at h'; cases h'
    | some qs => rw [e] at h'; cases h'; exact .lst s.sq (pds0_ok r e)
  | _, _, _, .scr _ _, h => by cases h
  | _, _, _, .obj _, h => by cases h
  | _, _, _, .gl _, h => by cases h
  | _, _, _, .ty _, h => by cases h
theorem pds0_ok : ∀ {vs : List V} {ds : List D} {qs : List PyData}, RepVs K w H vs ds → pds0 ds = some qs → DpAll K H vs qs
  | _, _, _, .nil, h => by cases h; exact .nil
  | _, _, _, .cons (d := d) (ds := ds) r rs, h => by
    have h' : (match pd0 d, pds0 ds with
      | some d, some ds => some (d :: ds)
      | _, _ => none) = some _ := h
    cases e1 : pd0 d with
    | none => rw [e1] at h'; cases h'
    | some q =>
      cases e2 : pds0 ds with
      | none => rw [e1, e2] at h'; cases h'
      | some qs => rw [e1, e2] at h'; cases h'; exact .cons (pd0_ok r e1) (pds0_ok rs e2)
end
theorem pd_ok {v : V} {d : D} {q : PyData} (hr : HeapRel K w H η) (rv : RepV K w H v d) (h : pd d η = some q) : Dp K H v q := by
  cases d with
  | obj i =>
    cases rv with | obj ha => ?_
    dsimp only [pd] at h
    split at h
    · rename_i xs eo
      obtain ⟨ys, e, r⟩ := hr.at_ _ _ _ ha eo
      cases e2 : pds0 xs with
      | none => rw [e2] at h; cases h
      | some qs => rw [e2] at h; cases h; exact .lst (SqL.of e) (pds0_ok r e2)
    · cases h
  | _ => exact pd0_ok rv h
/-- the sizes and depths that == serves -/
def plainQ (q : PyData) : Prop := SeqAt.shaped q = true
instance (q : PyData) : Decidable (plainQ q) := by unfold plainQ; infer_instance
def eqD : G2 := fun x y η => match pd x η, pd y η with
  | some p, some q => if plainQ p ∧ plainQ q then some (.bl (PyData.eqv p q), η) else none
  | _, _ => none
def neD : G2 := fun x y η => match pd x η, pd y η with
  | some p, some q => if plainQ p ∧ plainQ q then some (.bl (!PyData.eqv p q), η) else none
  | _, _ => none
theorem opD_eq (hu : X.A.units + 64 < cLine) : OpR X (compareOp .Eq) (rd2 X.K eqD) := op_of (op_eqD hu) fun hr r1 r2 h p => by
  unfold eqD at h
  split at h
  · rename_i e1 e2
    split at h
    · rename_i hq; cases h; exact ⟨_, _, pd_ok hr r1 e1, pd_ok hr r2 e2, hq.1, hq.2, val_of p hr (.bl _)⟩
    · cases h
  · cases h
theorem opD_ne (hu : X.A.units + 64 < cLine) : OpR X (compareOp .NotEq) (rd2 X.K neD) := op_of (op_neD hu) fun hr r1 r2 h p => by
  unfold neD at h
  split at h
  · rename_i e1 e2
    split at h
    · rename_i hq; cases h; exact ⟨_, _, pd_ok hr r1 e1, pd_ok hr r2 e2, hq.1, hq.2, val_of p hr (.bl _)⟩
    · cases h
  · cases h
/-! ### built-in calls -/
def lenD : GL := fun ds η => match ds with
  | [.str x] => if x.length ≤ sizeLine then some (.int x.length, η) else none
  | [.tup xs] => some (.int xs.length, η)
  | [d] => match seqL d η with
    | some xs => some (.int xs.length, η)
    | none => none
  | _ => none
theorem callD_len : CallR X (.builtin "len") (rdL X.K lenD) := call_of call_len fun hr r h p => by
  unfold lenD at h
  split at h
  · split at h
    · rename_i hl
      cases h
      cases r with | cons r1 r2 => ?_
      cases r2; cases r1
      exact ⟨_, _, rfl, ⟨hl, rfl⟩, val_of p hr (.int _)⟩
    · cases h
  · cases h
    cases r with | cons r1 r2 => ?_
    cases r2
    cases r1 with | tup s q => ?_
    exact ⟨_, _, rfl, .inr ⟨_, s.sq, rfl⟩, by rw [q.length]; exact val_of p hr (.int _)⟩
  · split at h
    · rename_i e
      cases h
      cases r with | cons r1 r2 => ?_
      cases r2
      obtain ⟨a, ys, rfl, s, q⟩ := seqL_ok hr r1 e
      exact ⟨_, _, rfl, .inl ⟨_, s, rfl⟩, by rw [q.length]; exact val_of p hr (.int _)⟩
    · cases h
  · cases h
def absD : GL := fun ds η => match ds with
  | [.int i] => some (.int (if i < 0 then -i else i), η)
  | _ => none
theorem callD_abs : CallR X (.builtin "abs") (rdL X.K absD) := call_of call_abs fun hr r h p => by
  unfold absD at h
  split at h
  · cases h
    cases r with | cons r1 r2 => ?_
    cases r2; cases r1
    exact ⟨_, rfl, val_of p hr (.int _)⟩
  · cases h
def max2D : GL := fun ds η => match ds with
  | [.int i, .int j] => some (.int (if j > i then j else i), η)
  | _ => none
def min2D : GL := fun ds η => match ds with
  | [.int i, .int j] => some (.int (if j < i then j else i), η)
  | _ => none
theorem callD_max2 (hc : X.calm = true) : CallR X (.builtin "max") (rdL X.K max2D) := call_of (call_max2 hc) fun hr r h p => by
  unfold max2D at h
  split at h
  · cases h
    cases r with | cons r1 r2 => ?_
    cases r2 with | cons r2 r3 => ?_
    cases r3; cases r1; cases r2
    exact ⟨_, _, rfl, val_of p hr (.int _)⟩
  · cases h
theorem callD_min2 (hc : X.calm = true) : CallR X (.builtin "min") (rdL X.K min2D) := call_of (call_min2 hc) fun hr r h p => by
  unfold min2D at h
  split at h
  · cases h
    cases r with | cons r1 r2 => ?_
    cases r2 with | cons r2 r3 => ?_
    cases r3; cases r1; cases r2
    exact ⟨_, _, rfl, val_of p hr (.int _)⟩
  · cases h
def intD : GL := fun ds η => match ds with
  | [.int i] => some (.int i, η)
  | [.bl b] => some (.int (if b then 1 else 0), η)
  | _ => none
theorem callD_int : CallR X (.type "int") (rdL X.K intD) := call_of call_int1 fun hr r h p => by
  unfold intD at h
  split at h
  · cases h
    cases r with | cons r1 r2 => ?_
    cases r2; cases r1
    exact .inl ⟨_, rfl, val_of p hr (.int _)⟩
  · cases h
    cases r with | cons r1 r2 => ?_
    cases r2; cases r1
    exact .inr ⟨_, rfl, val_of p hr (.int _)⟩
  · cases h
/-- tuple(x) -/
def tupleD : GL := fun ds η => match ds with
  | [.tup xs] => some (.tup xs, η)
  | [d] => match seqL d η with
    | some xs => some (.tup xs, η)
    | none => none
  | _ => none
theorem callD_tuple : CallR X (.type "tuple") (rdL X.K tupleD) := call_of call_tuple_of fun hr r h p => by
  unfold tupleD at h
  split at h
  · cases h
    cases r with | cons r1 r2 => ?_
    cases r2
    cases r1 with | tup s q => ?_
    exact ⟨_, _, rfl, .inr ⟨s.sq, val_of p hr (.tup s q)⟩⟩
  · split at h
    · rename_i e
      cases h
      cases r with | cons r1 r2 => ?_
      cases r2
      obtain ⟨a, ys, rfl, s, q⟩ := seqL_ok hr r1 e
      exact ⟨_, _, rfl, .inl ⟨s, fun l hl => tup_of p hr q hl⟩⟩
    · cases h
  · cases h
/-- list(x), as a value; as a thing -/
def listD : GL := fun ds η => match ds with
  | [.tup xs] => some (.lst xs, η)
  | [d] => match seqL d η with
    | some xs => some (.lst xs, η)
    | none => none
  | _ => none
def listO : GL := fun ds η => match ds with
  | [.tup xs] => some (.obj η.length, η ++ [.lst xs])
  | [d] => match seqL d η with
    | some xs => some (.obj η.length, η ++ [.lst xs])
    | none => none
  | _ => none
theorem callD_list : CallR X (.type "list") (rdL X.K listD) := call_of call_list_of fun hr r h p => by
  unfold listD at h
  split at h
  · cases h
    cases r with | cons r1 r2 => ?_
    cases r2
    cases r1 with | tup s q => ?_
    exact ⟨_, _, rfl, .inr s.sq, fun l hl => lst_of p hr q hl⟩
  · split at h
    · rename_i e
      cases h
      cases r with | cons r1 r2 => ?_
      cases r2
      obtain ⟨a, ys, rfl, s, q⟩ := seqL_ok hr r1 e
      exact ⟨_, _, rfl, .inl s, fun l hl => lst_of p hr q hl⟩
    · cases h
  · cases h
theorem callD_listO : CallR X (.type "list") (rdL X.K listO) := call_of call_list_of fun hr r h p => by
  unfold listO at h
  split at h
  · cases h
    cases r with | cons r1 r2 => ?_
    cases r2
    cases r1 with | tup s q => ?_
    exact ⟨_, _, rfl, .inr s.sq, fun l hl => obj_of p hr q hl⟩
  · split at h
    · rename_i e
      cases h
      cases r with | cons r1 r2 => ?_
      cases r2
      obtain ⟨a, ys, rfl, s, q⟩ := seqL_ok hr r1 e
      exact ⟨_, _, rfl, .inl s, fun l hl => obj_of p hr q hl⟩
    · cases h
  · cases h
/-- all, any of a list of bools -/
def boolsOf : List D → Option (List Bool)
  | [] => some []
  | .bl b :: r => (boolsOf r).map (b :: ·)
  | _ => none
theorem bools_ok : ∀ {vs : List V} {ds : List D} {bs : List Bool}, RepVs K w H vs ds → boolsOf ds = some bs → vs = bs.map V.bl
  | _, _, _, .nil, h => by cases h; rfl
  | _, _, _, .cons (d := d) (ds := ds) r rs, h => by
    cases d with
    | bl b =>
      have h' : (boolsOf ds).map (b :: ·) = some _ := h
      cases e : boolsOf ds with
      | none => rw [e] at h'; cases h'
      | some bs =>
        rw [e] at h'; cases h'
        cases r
        rw [List.map_cons, bools_ok rs e]
    | _ => cases h
def allD : GL := fun ds η => match ds with
  | [d] => match seqL d η with
    | some xs => (boolsOf xs).map fun bs => (.bl (bs.all id), η)
    | none => none
  | _ => none
def anyD : GL := fun ds η => match ds with
  | [d] => match seqL d η with
    | some xs => (boolsOf xs).map fun bs => (.bl (bs.any id), η)
    | none => none
  | _ => none
theorem callD_all (hc : X.calm = true) : CallR X (.builtin "all") (rdL X.K allD) := call_of (cr_all hc) fun hr r h p => by
  unfold allD at h
  split at h
  · split at h
    · rename_i e
      cases r with | cons r1 r2 => ?_
      cases r2
      obtain ⟨a, ys, rfl, s, q⟩ := seqL_ok hr r1 e
      cases eb : boolsOf ‹List D› with
      | none => rw [eb] at h; cases h
      | some bs =>
        rw [eb] at h
        cases h
        exact ⟨_, bs, rfl, by rw [← bools_ok q eb]; exact s, val_of p hr (.bl _)⟩
    · cases h
  · cases h
theorem callD_any (hc : X.calm = true) : CallR X (.builtin "any") (rdL X.K anyD) := call_of (cr_any hc) fun hr r h p => by
  unfold anyD at h
  split at h
  · split at h
    · rename_i e
      cases r with | cons r1 r2 => ?_
      cases r2
      obtain ⟨a, ys, rfl, s, q⟩ := seqL_ok hr r1 e
      cases eb : boolsOf ‹List D› with
      | none => rw [eb] at h; cases h
      | some bs =>
        rw [eb] at h
        cases h
        exact ⟨_, bs, rfl, by rw [← bools_ok q eb]; exact s, val_of p hr (.bl _)⟩
    · cases h
  · cases h
def intsOf : List D → Option (List Int)
  | [] => some []
  | .int b :: r => (intsOf r).map (b :: ·)
  | _ => none
theorem ints_ok : ∀ {vs : List V} {ds : List D} {bs : List Int}, RepVs K w H vs ds → intsOf ds = some bs → vs = bs.map V.int
  | _, _, _, .nil, h => by cases h; rfl
  | _, _, _, .cons (d := d) (ds := ds) r rs, h => by
    cases d with
    | int b =>
      have h' : (intsOf ds).map (b :: ·) = some _ := h
      cases e : intsOf ds with
      | none => rw [e] at h'; cases h'
      | some bs =>
        rw [e] at h'; cases h'
        cases r
        rw [List.map_cons, ints_ok rs e]
    | _ => cases h
theorem ints_map (ns : List Int) : intsOf (ns.map D.int) = some ns := by
  induction ns with
  | nil => rfl
  | cons n r ih => show (intsOf (r.map D.int)).map (n :: ·) = _; rw [ih]; rfl
theorem bools_map (ns : List Bool) : boolsOf (ns.map D.bl) = some ns := by
  induction ns with
  | nil => rfl
  | cons n r ih => show (boolsOf (r.map D.bl)).map (n :: ·) = _; rw [ih]; rfl
theorem ints_rep : ∀ (ns : List Int), RepVs K w H (ns.map V.int) (ns.map D.int)
  | [] => .nil
  | n :: r => .cons (.int n) (ints_rep r)
/-! ### subscripts -/
def ixD : G2 := fun x y η => match y with
  | .int i => (match x with
    | .tup xs => (atI xs i).map (·, η)
    | .str s => if s.length ≤ sizeLine then (atI s.cps.toList i).map fun c => (.str ⟨#[c]⟩, η) else none
    | x => match seqL x η with
      | some xs => (atI xs i).map (·, η)
      | none => none)
  | _ => none
theorem atI_rep {vs : List V} {ds : List D} {i : Int} {d : D} (r : RepVs K w H vs ds) (h : atI ds i = some d) : ∃ v, atI vs i = some v ∧ RepV K w H v d := by
  unfold atI at h ⊢
  rw [r.length]
  cases e : ixN ds.length i with
  | none => rw [e] at h; cases h
  | some j =>
    rw [e] at h
    exact r.get h
theorem ixD_seq : IxR X (rd2 X.K ixD) := ix_of ix_seq fun hr r1 r2 h p => by
  unfold ixD at h
  split at h
  · cases r2
    split at h
    · rename_i xs
      cases e : atI xs ‹Int› with
      | none => rw [e] at h; cases h
      | some d =>
        rw [e] at h; cases h
        cases r1 with | tup s q => ?_
        obtain ⟨v, ev, rv⟩ := atI_rep q e
        exact .inr (.inl ⟨_, _, _, v, rfl, rfl, s.sq, ev, val_of p hr rv⟩)
    · rename_i s
      split at h
      · rename_i hl
        cases e : atI s.cps.toList ‹Int› with
        | none => rw [e] at h; cases h
        | some c =>
          rw [e] at h; cases h
          cases r1
          exact .inr (.inr ⟨_, _, c, rfl, rfl, hl, e, val_of p hr (.str _)⟩)
      · cases h
    · split at h
      · rename_i xs es
        cases e : atI xs ‹Int› with
        | none => rw [e] at h; cases h
        | some d =>
          rw [e] at h; cases h
          obtain ⟨a, ys, rfl, s, q⟩ := seqL_ok hr r1 es
          obtain ⟨v, ev, rv⟩ := atI_rep q e
          exact .inl ⟨_, _, _, v, rfl, rfl, s, ev, val_of p hr rv⟩
      · cases h
  · cases h
/-! ### slices -/
def cutL (xs : List D) (lo hi : Option Int) : List D := (xs.drop (HT.sIx xs.length 0 lo)).take (HT.sIx xs.length xs.length hi - HT.sIx xs.length 0 lo)
theorem cutL_rep {vs : List V} {ds : List D} (r : RepVs K w H vs ds) (lo hi : Option Int) : RepVs K w H (cutV vs lo hi) (cutL ds lo hi) := by
  unfold cutV cutL
  rw [r.length]
  exact (r.drop _).take _
def slD : GS := fun x lo hi η => match x with
  | .tup xs => some (.tup (cutL xs lo hi), η)
  | x => match seqL x η with
    | some xs => some (.lst (cutL xs lo hi), η)
    | none => none
theorem cutL_whole {xs : List D} {lo hi : Option Int} (h : HT.sIx xs.length 0 lo = 0 ∧ HT.sIx xs.length xs.length hi = xs.length) : cutL xs lo hi = xs := by
  unfold cutL
  rw [h.1, h.2]
  simp
theorem slD_ok : SlR X (rdSl X.K slD) := sl_of (SlR.or sl_list sl_tupA) fun hr r1 h p => by
  unfold slD at h
  split at h
  · cases h
    cases r1 with | tup s q => ?_
    refine .inr ⟨_, _, rfl, s.sq, fun e => ?_, fun _ b hb => tup_of p hr (cutL_rep q _ _) hb⟩
    rw [q.length] at e
    rw [cutL_whole e] at p
    exact val_of p hr (.tup s q)
  · split at h
    · rename_i es
      cases h
      obtain ⟨a, ys, rfl, s, q⟩ := seqL_ok hr r1 es
      exact .inl ⟨_, _, rfl, s, fun b hb => lst_of p hr (cutL_rep q _ _) hb⟩
    · cases h
end
end Dn
/-! Dn part 7: zip, enumerate, range: what is walked. -/
namespace Dn
open PySem PySem.Spec PyProof.Rows L2
/-! ### a list or a tuple, its iterator -/
def SIt (t : Bool) (h : Heap) (it l : Addr) (i : Nat) : Prop := match t with
  | true => h.IsTupleIter it l i
  | false => h.IsListIter it l i
def SLs (t : Bool) (h : Heap) (l : Addr) (xs : Array Value) : Prop := match t with
  | true => h.IsTuple l xs
  | false => h.IsList l xs
def SqS (K : PySem.W.Frag) (H : Hp) (t : Bool) (a : Addr) (xs : List V) : Prop := match t with
  | true => SqT K H a xs
  | false => SqL K H a xs
abbrev itO (t : Bool) (l : Addr) : Obj := match t with
  | true => { cls := .type "tuple_iterator", data := .fields #[.ref l, .int 0 0] }
  | false => { cls := .type "list_iterator", data := .fields #[.ref l, .int 0 0] }
theorem SIt.live {t : Bool} {h : Heap} {it l : Addr} {i : Nat} (x : SIt t h it l i) : ∃ o, h.get? it = some o ∧ ∀ v, o.data ≠ .cell v := by
  cases t with
  | true => obtain ⟨o, e, _, d⟩ := (show h.IsTupleIter it l i from x); exact ⟨o, e, fun v q => by rw [d] at q; cases q⟩
  | false => obtain ⟨o, e, _, d⟩ := (show h.IsListIter it l i from x); exact ⟨o, e, fun v q => by rw [d] at q; cases q⟩
theorem SIt.at_ {t : Bool} {h h' : Heap} {it l : Addr} {i : Nat} (x : SIt t h it l i) (k : ∀ o, h.get? it = some o → h'.get? it = some o) : SIt t h' it l i := by
  cases t with
  | true => exact (show h.IsTupleIter it l i from x).at k
  | false => exact (show h.IsListIter it l i from x).at k
theorem SIt.new {t : Bool} {h : Heap} {it l : Addr} (e : h.get? it = some (itO t l)) : SIt t h it l 0 := by
  cases t with
  | true => exact ⟨_, e, rfl, rfl⟩
  | false => exact ⟨_, e, rfl, rfl⟩
theorem draws_s {prog : Program} {w : World} {A : Around} (hh : A.handled = none) (t : Bool) (it l : Addr) (hne : l ≠ it) (items : Array Value) :
    Draws prog w A it [it, l] items.size (fun i v => items[i]? = some v) (fun i h => SIt t h it l i ∧ SLs t h l items) := by
  cases t with
  | true => exact Draws.tuple hh it l hne items
  | false => exact Draws.list hh it l hne items
theorem s_ne {t : Bool} {h : Heap} {it l : Addr} {i : Nat} {xs : Array Value} (x : SIt t h it l i) (p : SLs t h l xs) : l ≠ it := fun q => by
  subst q
  cases t with
  | true =>
    obtain ⟨o', e', c', _⟩ := (show h.IsTuple l _ from p)
    obtain ⟨o2, e2, c2, _⟩ := (show h.IsTupleIter l l i from x)
    rw [e2] at e'; cases e'; rw [c2] at c'; simp at c'
  | false =>
    obtain ⟨o', e', c', _⟩ := (show h.IsList l _ from p)
    obtain ⟨o2, e2, c2, _⟩ := (show h.IsListIter l l i from x)
    rw [e2] at e'; cases e'; rw [c2] at c'; simp at c'
theorem begins_s (t : Bool) (l : Addr) (items : Array Value) : Begins (.ref l) (itO t l) fun h => SLs t h l items := by
  cases t with
  | true => exact begins_tuple l items
  | false => exact begins_list l items
section
variable {X : Cx} {pins : List (Addr × Obj)} {σ : L2.St} {H : Hp} {s : Shared} {a : Addr} {xs ys : List V} {t : Bool}
theorem inv_seq (I : Inv X pins σ H s) (h : SqS X.K H t a xs) : ∃ its : List Value, Vals xs its ∧ SLs t s.heap a its.toArray ∧ its.toArray.size = xs.length := by
  cases t with
  | true => obtain ⟨its, rv, p, _⟩ := I.tuple h; exact ⟨its, rv, p, by simp [rv.length]⟩
  | false => obtain ⟨its, rv, p, _⟩ := I.list h; exact ⟨its, rv, p.isList, by simp [rv.length]⟩
theorem seq_inj (I : Inv X pins σ H s) (h : SqS X.K H t a xs) (h' : SqS X.K H t a ys) : xs = ys := by
  cases t with
  | true => exact I.tuple_inj h h'
  | false => exact I.list_inj h h'
theorem seq_lt (I : Inv X pins σ H s) (h : SqS X.K H t a xs) : a < s.heap.objs.size := by
  obtain ⟨its, _, p, _⟩ := inv_seq I h
  cases t with
  | true => obtain ⟨_, e, _⟩ := (show s.heap.IsTuple a _ from p); exact Heap.lt_size e
  | false => obtain ⟨_, e, _⟩ := (show s.heap.IsList a _ from p); exact Heap.lt_size e
/-- one turn of a walk that hands out new tuples -/
theorem walkT_item {It : Addr} {fp wr : List Addr} {n i : Nat} {Pt : Nat → Array Value → Prop} {St : Nat → Heap → Prop} {Mid : Nat → Addr → Heap → Prop} {elts : List Expr} {kk : Nat} {tpos : Pos} {E : Value → Shared → Prop} {xs : List V}
    (Wk : WalksT X.prog X.w X.A It fp wr n Pt St Mid) (I : Inv X pins σ H s) (st : St i s.heap) (hi : i < n) (hf : ∀ b ∈ wr, FpOk X pins H b) (hv : ∀ vals, Pt i vals → Vals xs vals.toList) (hz : xs.length ≤ sizeLine) :
    wpAny (model X.prog X.w) X.A (pyNext (.ref It)) (fun r s1 => ∃ u, r = some u ∧
      wpAny (model X.prog X.w) X.A (letOwnedTupleGo (.Tuple elts kk tpos) (.ref It) u) (fun _ s2 => ∃ T, u = .ref T ∧ H T = none ∧ s.heap.objs.size ≤ T ∧ Inv X pins σ (upd H T (.tup xs)) s2 ∧ St (i + 1) s2.heap ∧
        ∀ b o, b ∉ wr → s.heap.get? b = some o → s2.heap.get? b = some o) E s1) E s := by
  refine Wk.item i s _ _ hi st fun T vals h' tk hP hT ht hm hk => ⟨_, rfl, ?_⟩
  refine Wk.go elts kk tpos i T { s with heap := h', toks := tk } _ _ hm fun h'' hs hk2 => ?_
  have hTw : T ∉ wr := Wk.apart i T h' hm
  have hn : H T = none := I.hok.fresh hT
  refine ⟨T, rfl, hn, hT, ?_, hs, fun b o hb e => hk2 b o hb (hk b o hb e)⟩
  have ht2 : h''.IsTuple T vals := ht.at fun o e => hk2 T o hTw e
  refine I.turnedNew (t' := tk) (ch := wr) (fun b o hb e => hk2 b o hb (hk b o hb e)) hf hT ⟨hz, vals.toList, hv vals hP, ?_⟩
  have : vals.toList.toArray = vals := by simp
  rw [this]
  exact ht2
theorem walkT_done {It : Addr} {fp wr : List Addr} {n : Nat} {Pt : Nat → Array Value → Prop} {St : Nat → Heap → Prop} {Mid : Nat → Addr → Heap → Prop} {E : Value → Shared → Prop}
    (Wk : WalksT X.prog X.w X.A It fp wr n Pt St Mid) (I : Inv X pins σ H s) (st : St n s.heap) (hf : ∀ b ∈ wr, FpOk X pins H b) :
    wpAny (model X.prog X.w) X.A (pyNext (.ref It)) (fun r s1 => r = none ∧ Inv X pins σ H s1) E s :=
  Wk.done s _ _ st fun h' tk hk => ⟨rfl, I.turnedL (t' := tk) (ch := wr) hk hf⟩
end

/-! ### zip of two -/
def It2 (K : PySem.W.Frag) (t1 t2 : Bool) (a b : Addr) : It :=
  ⟨fun i H => ∃ (xs ys : List V) (x y : V), SqS K H t1 a xs ∧ SqS K H t2 b ys ∧ xs[i]? = some x ∧ ys[i]? = some y,
    fun i H v H' => ∃ T x y, v = .ref T ∧ H T = none ∧ H' = upd H T (.tup [x, y]) ∧ (∀ xs, SqS K H t1 a xs → xs[i]? = some x) ∧ ∀ ys, SqS K H t2 b ys → ys[i]? = some y,
    fun i H => ∃ xs ys : List V, SqS K H t1 a xs ∧ SqS K H t2 b ys ∧ i ≤ xs.length ∧ i ≤ ys.length ∧ (i = xs.length ∨ i = ys.length)⟩
theorem turn_zip2 {P : Program} {w : World} {K : PySem.W.Frag} {elts : List Expr} {kk : Nat} {tpos : Pos} {t1 t2 : Bool} {a b z TI TO i1 i2 : Addr} (D : ZipSep2 z TI TO i1 i2 [i1, a] [i2, b]) :
    Turn P w K (.Tuple elts kk tpos) (It2 K t1 t2 a b) [z, TI, TO, i1, i2] z (fun i h => IsZip h z TI TO .none ∧ IsTupOf2 h TI (.ref i1) (.ref i2) ∧ (∃ x y, IsTupOf2 h TO x y) ∧ SIt t1 h i1 a i ∧ SIt t2 h i2 b i) where
  mem := by simp
  obj := fun i h st c hc => by
    obtain ⟨hz, hTI, ⟨x, y, hTO⟩, h1, h2⟩ := st
    have e' : c = z ∨ c = TI ∨ c = TO ∨ c = i1 ∨ c = i2 := by simpa using hc
    rcases e' with q | q | q | q | q
    · rw [q]; exact ⟨_, hz, fun v q => nomatch q⟩
    · rw [q]; exact ⟨_, hTI, fun v q => nomatch q⟩
    · rw [q]; exact ⟨_, hTO, fun v q => nomatch q⟩
    · rw [q]; exact h1.live
    · rw [q]; exact h2.live
  keep := fun i h h' st k => by
    obtain ⟨hz, hTI, ⟨x, y, hTO⟩, h1, h2⟩ := st
    exact ⟨k z (by simp) _ hz, k TI (by simp) _ hTI, ⟨x, y, k TO (by simp) _ hTO⟩, h1.at_ fun o q => k i1 (by simp) o q, h2.at_ fun o q => k i2 (by simp) o q⟩
  item := by
    intro X hP hw hK hc i pins s σ H E I hf st hg
    subst hP hw hK
    obtain ⟨hz, hTI, hTO, h1, h2⟩ := st
    obtain ⟨xs, ys, x, y, hqx, hqy, hx, hy⟩ := hg
    obtain ⟨its, rv, p, l1⟩ := inv_seq I hqx
    obtain ⟨its2, rv2, p2, l2⟩ := inv_seq I hqy
    have hi1 := (List.getElem?_eq_some_iff.mp hx).1
    have hi2 := (List.getElem?_eq_some_iff.mp hy).1
    have n1 : a ≠ i1 := s_ne h1 p
    have n2 : b ≠ i2 := s_ne h2 p2
    have Wk := WalksT.zipD2 (prog := X.prog) (w := X.w) (A := X.A) D (draws_s (A := X.A.in1) (I.ok.hd hc) t1 i1 a n1 its.toArray) (draws_s (A := X.A.in1) (I.ok.hd hc) t2 i2 b n2 its2.toArray)
    refine wpAny_mono (walkT_item (xs := [x, y]) Wk I ⟨hz, hTI, hTO, ⟨h1, p⟩, ⟨h2, p2⟩⟩ (by rw [l1, l2]; omega) (fun c hc' => hf c (by
      have e' : c = z ∨ c = TO ∨ c = i1 ∨ c = i2 := by simpa using hc'
      rcases e' with q | q | q | q <;> simp [q])) (fun vals ⟨x1, x2, q1, q2, e⟩ => ?_) (by show 2 ≤ sizeLine; decide)) (fun r s1 ⟨u, e1, q⟩ => ⟨u, e1, wpAny_mono q (fun _ s2 ⟨T, eu, hn, hle, I2, st2, hk⟩ => ?_) fun _ _ e => e⟩) fun _ _ e => e
    · subst e
      obtain ⟨u, hu, ru⟩ := rv.get hx
      obtain ⟨u2, hu2, ru2⟩ := rv2.get hy
      have e1 : its[i]? = some x1 := by simpa using q1
      have e2 : its2[i]? = some x2 := by simpa using q2
      rw [hu] at e1; cases e1
      rw [hu2] at e2; cases e2
      exact .cons ru (.cons ru2 .nil)
    · subst eu
      obtain ⟨z1, z2, z3, ⟨z4, _⟩, ⟨z5, _⟩⟩ := st2
      refine ⟨.ref T, _, I2, rfl, ⟨T, x, y, rfl, hn, rfl, fun l hl => by rw [seq_inj I hl hqx]; exact hx, fun l hl => by rw [seq_inj I hl hqy]; exact hy⟩, ⟨z1, z2, z3, z4, z5⟩, fun c hcm => ?_⟩
      have hlt : c < s.heap.objs.size := by
        have e' : c = z ∨ c = TI ∨ c = TO ∨ c = i1 ∨ c = i2 := by simpa using hcm
        rcases e' with q | q | q | q | q
        · rw [q]; exact Heap.lt_size hz
        · rw [q]; exact Heap.lt_size hTI
        · rw [q]; obtain ⟨_, _, hTO⟩ := hTO; exact Heap.lt_size hTO
        · rw [q]; obtain ⟨_, e1, _⟩ := h1.live; exact Heap.lt_size e1
        · rw [q]; obtain ⟨_, e2, _⟩ := h2.live; exact Heap.lt_size e2
      rw [upd_ne (Nat.ne_of_lt (Nat.lt_of_lt_of_le hlt hle))]
      exact (hf c hcm).1
  done := by
    intro X hP hw hK hc i pins s σ H E I hf st hg
    subst hP hw hK
    obtain ⟨hz, hTI, ⟨a1, a2, hTO⟩, h1, h2⟩ := st
    obtain ⟨xs, ys, hqx, hqy, le1, le2, hend⟩ := hg
    obtain ⟨its, rv, p, l1⟩ := inv_seq I hqx
    obtain ⟨its2, rv2, p2, l2⟩ := inv_seq I hqy
    have n1 : a ≠ i1 := s_ne h1 p
    have n2 : b ≠ i2 := s_ne h2 p2
    refine wpAny_pyNext_zipD2_end D (draws_s (A := X.A.in1) (I.ok.hd hc) t1 i1 a n1 its.toArray) (draws_s (A := X.A.in1) (I.ok.hd hc) t2 i2 b n2 its2.toArray) hz hTI hTO ⟨h1, p⟩ ⟨h2, p2⟩ (by rw [l1]; exact le1) (by rw [l2]; exact le2) (by rw [l1, l2]; exact hend) fun h' tk hk => ⟨rfl, ?_⟩
    exact I.turnedL (t' := tk) (ch := [z, TI, TO, i1, i2]) (fun c o hb q => hk c o (fun q' => hb (by simp [q'])) (fun q' => hb (by simp [q'])) (fun q' => hb (by simp [q'])) (fun q' => hb (by simp [q'])) q) hf
  self := fun A i s Q E st h => wpAny_pyIter_zip st.1 h

/-! ### zip of three -/
def It3 (K : PySem.W.Frag) (t1 t2 t3 : Bool) (a b c : Addr) : It :=
  ⟨fun i H => ∃ (xs ys zs : List V) (x y u : V), SqS K H t1 a xs ∧ SqS K H t2 b ys ∧ SqS K H t3 c zs ∧ xs[i]? = some x ∧ ys[i]? = some y ∧ zs[i]? = some u,
    fun i H v H' => ∃ T x y u, v = .ref T ∧ H T = none ∧ H' = upd H T (.tup [x, y, u]) ∧ (∀ xs, SqS K H t1 a xs → xs[i]? = some x) ∧ (∀ ys, SqS K H t2 b ys → ys[i]? = some y) ∧ ∀ zs, SqS K H t3 c zs → zs[i]? = some u,
    fun i H => ∃ xs ys zs : List V, SqS K H t1 a xs ∧ SqS K H t2 b ys ∧ SqS K H t3 c zs ∧ i ≤ xs.length ∧ i ≤ ys.length ∧ i ≤ zs.length ∧ (i = xs.length ∨ i = ys.length ∨ i = zs.length)⟩
theorem turn_zip3 {P : Program} {w : World} {K : PySem.W.Frag} {elts : List Expr} {kk : Nat} {tpos : Pos} {t1 t2 t3 : Bool} {a b d z TI TO i1 i2 i3 : Addr} (D : ZipSep3 z TI TO i1 i2 i3 [i1, a] [i2, b] [i3, d]) :
    Turn P w K (.Tuple elts kk tpos) (It3 K t1 t2 t3 a b d) [z, TI, TO, i1, i2, i3] z (fun i h => IsZip h z TI TO .none ∧ IsTupOf3 h TI (.ref i1) (.ref i2) (.ref i3) ∧ (∃ x y u, IsTupOf3 h TO x y u) ∧ SIt t1 h i1 a i ∧ SIt t2 h i2 b i ∧ SIt t3 h i3 d i) where
  mem := by simp
  obj := fun i h st c hc => by
    obtain ⟨hz, hTI, ⟨x, y, u, hTO⟩, h1, h2, h3⟩ := st
    have e' : c = z ∨ c = TI ∨ c = TO ∨ c = i1 ∨ c = i2 ∨ c = i3 := by simpa using hc
    rcases e' with q | q | q | q | q | q
    · rw [q]; exact ⟨_, hz, fun v q => nomatch q⟩
    · rw [q]; exact ⟨_, hTI, fun v q => nomatch q⟩
    · rw [q]; exact ⟨_, hTO, fun v q => nomatch q⟩
    · rw [q]; exact h1.live
    · rw [q]; exact h2.live
    · rw [q]; exact h3.live
  keep := fun i h h' st k => by
    obtain ⟨hz, hTI, ⟨x, y, u, hTO⟩, h1, h2, h3⟩ := st
    exact ⟨k z (by simp) _ hz, k TI (by simp) _ hTI, ⟨x, y, u, k TO (by simp) _ hTO⟩, h1.at_ fun o q => k i1 (by simp) o q, h2.at_ fun o q => k i2 (by simp) o q, h3.at_ fun o q => k i3 (by simp) o q⟩
  item := by
    intro X hP hw hK hc i pins s σ H E I hf st hg
    subst hP hw hK
    obtain ⟨hz, hTI, hTO, h1, h2, h3⟩ := st
    obtain ⟨xs, ys, zs, x, y, u0, hqx, hqy, hqz, hx, hy, hu0⟩ := hg
    obtain ⟨its, rv, p, l1⟩ := inv_seq I hqx
    obtain ⟨its2, rv2, p2, l2⟩ := inv_seq I hqy
    obtain ⟨its3, rv3, p3, l3⟩ := inv_seq I hqz
    have hi1 := (List.getElem?_eq_some_iff.mp hx).1
    have hi2 := (List.getElem?_eq_some_iff.mp hy).1
    have hi3 := (List.getElem?_eq_some_iff.mp hu0).1
    have Wk := WalksT.zipD3 (prog := X.prog) (w := X.w) (A := X.A) D (draws_s (A := X.A.in1) (I.ok.hd hc) t1 i1 a (s_ne h1 p) its.toArray) (draws_s (A := X.A.in1) (I.ok.hd hc) t2 i2 b (s_ne h2 p2) its2.toArray) (draws_s (A := X.A.in1) (I.ok.hd hc) t3 i3 d (s_ne h3 p3) its3.toArray)
    refine wpAny_mono (walkT_item (xs := [x, y, u0]) Wk I ⟨hz, hTI, hTO, ⟨h1, p⟩, ⟨h2, p2⟩, ⟨h3, p3⟩⟩ (by rw [l1, l2, l3]; omega) (fun c hc' => hf c (by
      have e' : c = z ∨ c = TO ∨ c = i1 ∨ c = i2 ∨ c = i3 := by simpa using hc'
      rcases e' with q | q | q | q | q <;> simp [q])) (fun vals ⟨x1, x2, x3, q1, q2, q3, e⟩ => ?_) (by show 3 ≤ sizeLine; decide)) (fun r s1 ⟨u, e1, q⟩ => ⟨u, e1, wpAny_mono q (fun _ s2 ⟨T, eu, hn, hle, I2, st2, hk⟩ => ?_) fun _ _ e => e⟩) fun _ _ e => e
    · subst e
      obtain ⟨u, hu, ru⟩ := rv.get hx
      obtain ⟨u2, hu2, ru2⟩ := rv2.get hy
      obtain ⟨u3, hu3, ru3⟩ := rv3.get hu0
      have e1 : its[i]? = some x1 := by simpa using q1
      have e2 : its2[i]? = some x2 := by simpa using q2
      have e3 : its3[i]? = some x3 := by simpa using q3
      rw [hu] at e1; cases e1
      rw [hu2] at e2; cases e2
      rw [hu3] at e3; cases e3
      exact .cons ru (.cons ru2 (.cons ru3 .nil))
    · subst eu
      obtain ⟨z1, z2, z3, ⟨z4, _⟩, ⟨z5, _⟩, ⟨z6, _⟩⟩ := st2
      refine ⟨.ref T, _, I2, rfl, ⟨T, x, y, u0, rfl, hn, rfl, fun l hl => by rw [seq_inj I hl hqx]; exact hx, fun l hl => by rw [seq_inj I hl hqy]; exact hy, fun l hl => by rw [seq_inj I hl hqz]; exact hu0⟩, ⟨z1, z2, z3, z4, z5, z6⟩, fun c hcm => ?_⟩
      have hlt : c < s.heap.objs.size := by
        have e' : c = z ∨ c = TI ∨ c = TO ∨ c = i1 ∨ c = i2 ∨ c = i3 := by simpa using hcm
        rcases e' with q | q | q | q | q | q
        · rw [q]; exact Heap.lt_size hz
        · rw [q]; exact Heap.lt_size hTI
        · rw [q]; obtain ⟨_, _, _, hTO⟩ := hTO; exact Heap.lt_size hTO
        · rw [q]; obtain ⟨_, e1, _⟩ := h1.live; exact Heap.lt_size e1
        · rw [q]; obtain ⟨_, e2, _⟩ := h2.live; exact Heap.lt_size e2
        · rw [q]; obtain ⟨_, e3, _⟩ := h3.live; exact Heap.lt_size e3
      rw [upd_ne (Nat.ne_of_lt (Nat.lt_of_lt_of_le hlt hle))]
      exact (hf c hcm).1
  done := by
    intro X hP hw hK hc i pins s σ H E I hf st hg
    subst hP hw hK
    obtain ⟨hz, hTI, ⟨a1, a2, a3, hTO⟩, h1, h2, h3⟩ := st
    obtain ⟨xs, ys, zs, hqx, hqy, hqz, le1, le2, le3, hend⟩ := hg
    obtain ⟨its, rv, p, l1⟩ := inv_seq I hqx
    obtain ⟨its2, rv2, p2, l2⟩ := inv_seq I hqy
    obtain ⟨its3, rv3, p3, l3⟩ := inv_seq I hqz
    refine wpAny_pyNext_zipD3_end D (draws_s (A := X.A.in1) (I.ok.hd hc) t1 i1 a (s_ne h1 p) its.toArray) (draws_s (A := X.A.in1) (I.ok.hd hc) t2 i2 b (s_ne h2 p2) its2.toArray) (draws_s (A := X.A.in1) (I.ok.hd hc) t3 i3 d (s_ne h3 p3) its3.toArray)
      hz hTI hTO ⟨h1, p⟩ ⟨h2, p2⟩ ⟨h3, p3⟩ (by rw [l1]; exact le1) (by rw [l2]; exact le2) (by rw [l3]; exact le3) (by rw [l1, l2, l3]; exact hend) fun h' tk hk => ⟨rfl, ?_⟩
    exact I.turnedL (t' := tk) (ch := [z, TI, TO, i1, i2, i3]) (fun c o hb q => hk c o (fun q' => hb (by simp [q'])) (fun q' => hb (by simp [q'])) (fun q' => hb (by simp [q'])) (fun q' => hb (by simp [q'])) (fun q' => hb (by simp [q'])) q) hf
  self := fun A i s Q E st h => wpAny_pyIter_zip st.1 h
/-! ### enumerate -/
def ItE (K : PySem.W.Frag) (t : Bool) (a : Addr) : It :=
  ⟨fun i H => ∃ (xs : List V) (x : V), SqS K H t a xs ∧ xs[i]? = some x, fun i H v H' => ∃ T x, v = .ref T ∧ H T = none ∧ H' = upd H T (.tup [.int (i : Nat), x]) ∧ ∀ xs, SqS K H t a xs → xs[i]? = some x, fun i H => ∃ xs : List V, SqS K H t a xs ∧ i = xs.length⟩
theorem turn_enumS {P : Program} {w : World} {K : PySem.W.Frag} {elts : List Expr} {kk : Nat} {tpos : Pos} {t : Bool} {a e it : Addr} (hei : e ≠ it) (hea : e ≠ a) :
    Turn P w K (.Tuple elts kk tpos) (ItE K t a) [e, it] e (fun i h => (∃ old, IsEnum h e it (0 + (i : Int)) old) ∧ SIt t h it a i) where
  mem := by simp
  obj := fun i h st b hb => by
    obtain ⟨⟨old, he⟩, h1⟩ := st
    have e' : b = e ∨ b = it := by simpa using hb
    rcases e' with z | z
    · rw [z]; exact ⟨_, he, fun v q => nomatch q⟩
    · rw [z]; exact h1.live
  keep := fun i h h' st k => let ⟨⟨old, he⟩, hi⟩ := st; ⟨⟨old, k e (by simp) _ he⟩, hi.at_ fun o q => k it (by simp) o q⟩
  item := by
    intro X hP hw hK hc i pins s σ H E I hf st hg
    subst hP hw hK
    obtain ⟨he, h1⟩ := st
    obtain ⟨xs, x, hq, hx⟩ := hg
    obtain ⟨its, rv, p, l1⟩ := inv_seq I hq
    have hi1 := (List.getElem?_eq_some_iff.mp hx).1
    have Wk := WalksT.enumFrom (prog := X.prog) (w := X.w) (A := X.A) 0 (draws_s (A := X.A.in1) (I.ok.hd hc) t it a (s_ne h1 p) its.toArray) e hei (by simp [hei, hea]) (by simp)
    refine wpAny_mono (walkT_item (xs := [.int (i : Nat), x]) Wk I ⟨he, ⟨h1, p⟩⟩ (by rw [l1]; omega) (fun c hc' => hf c hc') (fun vals ⟨tk, x1, q1, ev⟩ => ?_) (by show 2 ≤ sizeLine; decide)) (fun r s1 ⟨u, e1, q⟩ => ⟨u, e1, wpAny_mono q (fun _ s2 ⟨T, eu, hn, hle, I2, st2, hk⟩ => ?_) fun _ _ e => e⟩) fun _ _ e => e
    · subst ev
      obtain ⟨u, hu, ru⟩ := rv.get hx
      have e1 : its[i]? = some x1 := by simpa using q1
      rw [hu] at e1; cases e1
      exact .cons ⟨tk, by rw [Int.zero_add]⟩ (.cons ru .nil)
    · subst eu
      obtain ⟨z1, ⟨z2, _⟩⟩ := st2
      refine ⟨.ref T, _, I2, rfl, ⟨T, x, rfl, hn, rfl, fun l hl => by rw [seq_inj I hl hq]; exact hx⟩, ⟨z1, z2⟩, fun c hcm => ?_⟩
      have hlt : c < s.heap.objs.size := by
        have e' : c = e ∨ c = it := by simpa using hcm
        rcases e' with q | q
        · rw [q]; obtain ⟨_, he⟩ := he; exact Heap.lt_size he
        · rw [q]; obtain ⟨_, e1, _⟩ := h1.live; exact Heap.lt_size e1
      rw [upd_ne (Nat.ne_of_lt (Nat.lt_of_lt_of_le hlt hle))]
      exact (hf c hcm).1
  done := by
    intro X hP hw hK hc i pins s σ H E I hf st hg
    subst hP hw hK
    obtain ⟨he, h1⟩ := st
    obtain ⟨xs, hq, hi⟩ := hg
    obtain ⟨its, rv, p, l1⟩ := inv_seq I hq
    have Wk := WalksT.enumFrom (prog := X.prog) (w := X.w) (A := X.A) 0 (draws_s (A := X.A.in1) (I.ok.hd hc) t it a (s_ne h1 p) its.toArray) e hei (by simp [hei, hea]) (by simp)
    refine walkT_done Wk I ?_ hf
    rw [l1, ← hi]
    exact ⟨he, h1, p⟩
  self := fun A i s Q E st h => let ⟨⟨_, he⟩, _⟩ := st; wpAny_pyIter_enum he h
set_option maxHeartbeats 1000000 in
theorem meets_enumerate_newB0 {v : Value} {o : Obj} {H : Heap → Prop} (B : Begins v o H) :
    Meets (Builtin.«enumerate.__new__» ⟨[.type "enumerate", v], []⟩) (fun _ R s => H s.heap ∧
      R (.ok (.ret (.ref (s.heap.push o).objs.size))) { s with heap := (s.heap.push o).push { cls := .type "enumerate", data := .fields #[.none, .bool false, .ref s.heap.objs.size, rawInt 0, .none, .none] } }) :=
  .of_wp fun prog w A R s h => by
    obtain ⟨hp, g, d, tk, os⟩ := s; obtain ⟨h1, h⟩ := h
    have hsub := sub_enumerate
    have q1 : ∀ {A' : Around} {E : Value → Shared → Prop} {Q : Value → Shared → Prop} {tk : Nat}, Q (.ref hp.objs.size) ⟨hp.push o, g, d, tk, os⟩ → wpAny (model prog w) A' (pyIter v) Q E ⟨hp, g, d, tk, os⟩ :=
      fun q => B.iter prog w _ _ ⟨hp, g, d, _, os⟩ _ h1 q
    wp_walk using q1
    refine wpAny_stack_any fun st => wpAny_pure ?_
    split
    · rename_i c _ _ _ _ _
      cases (c == Value.type "enumerate")
      · wp_walk using q1
        exact ⟨_, rfl, h⟩
      · wp_walk using q1
        exact ⟨_, rfl, h⟩
    · wp_walk using q1
      exact ⟨_, rfl, h⟩
end Dn
/-! Dn part 8: zip, enumerate, range over data. -/
namespace Dn
open PySem PySem.Spec PyProof.Rows L2
section
variable {prog : Program} {w : World} {A : Around} {E : Value → Shared → Prop} {s : Shared}
theorem enum_begins0 {v : Value} {o : Obj} {H : Heap → Prop} {Q : Value → Shared → Prop} (B : Begins v o H) (h1 : H s.heap)
    (h : ∀ h', IsEnum h' (s.heap.objs.size + 1) s.heap.objs.size 0 .none → h'.get? s.heap.objs.size = some o → h'.objs.size = s.heap.objs.size + 2 →
      (∀ b o, s.heap.get? b = some o → h'.get? b = some o) → Q (.ref (s.heap.objs.size + 1)) { s with heap := h' }) :
    wpAny (model prog w) A (call (.type "enumerate") [v]) Q E s := by
  refine callType_new F.called_enumerate (by decide) (F.typeCall_enumerate_1 _) (F.newCall_enumerate_1 _) (fun obj => F.args_object_init_2 obj _) F.entry_enumerate_new
    (meets_enumerate_newB0 B) ⟨h1, ?_⟩
  have hz : (s.heap.push o).objs.size = s.heap.objs.size + 1 := Heap.size_push ..
  show _ ∧ _
  rw [hz]
  have he : IsEnum ((s.heap.push o).push { cls := .type "enumerate", data := .fields #[.none, .bool false, .ref s.heap.objs.size, rawInt 0, .none, .none] }) (s.heap.objs.size + 1) s.heap.objs.size 0 .none := by
    have := Heap.get?_push_size (s.heap.push o) (o := { cls := .type "enumerate", data := .fields #[.none, .bool false, .ref s.heap.objs.size, rawInt 0, .none, .none] }) rfl
    rw [hz] at this; exact this
  refine ⟨⟨_, he, rfl⟩, h _ he (Heap.get?_push_of_some _ (Heap.get?_push_size _ B.free)) (by rw [Heap.size_push, hz]) fun b o x => Heap.get?_push_of_some _ (Heap.get?_push_of_some _ x)⟩
end
section
variable {X : Cx} {W : WX} {K : PySem.W.Frag} {w w1 w' : Wd} {H H1 H' : Hp} {η : Store} {fA : FA} {p pos tpos : Pos} {e e2 e3 : Expr}
/-- a list, a tuple, as it may be walked with others: kind, source -/
def sqOf : D → Store → Option Src
  | .tup xs, _ => some (.val xs)
  | .lst xs, _ => some (.val xs)
  | .scr xs, _ => some (.val xs)
  | .obj k, η => match η[k]? with
    | some (.lst _) => some (.dyn (objAt k))
    | _ => none
  | _, _ => none
/-- v is a sequence at a, of the kind t, whose items the source tells, now and later -/
structure SqOk (K : PySem.W.Frag) (w : Wd) (H : Hp) (t : Bool) (a : Addr) (src : Src) : Prop where
  now : ∃ xs, SqS K H t a xs
  at_ : ∀ i w' H' η x, Ext w H w' H' → HeapRel K w' H' η → src.at i η = some x → ∃ xs v, SqS K H' t a xs ∧ xs[i]? = some v ∧ RepV K w' H' v x
  fin : ∀ i w' H' η, Ext w H w' H' → HeapRel K w' H' η → src.fin i η → ∃ xs, SqS K H' t a xs ∧ xs.length = i
  le : ∀ i w' H' η x, Ext w H w' H' → HeapRel K w' H' η → src.at i η = some x → ∃ xs, SqS K H' t a xs ∧ i ≤ xs.length
def lisD : D → Bool
  | .tup _ => false
  | _ => true
theorem sqOk3 {v : V} {d : D} {src : Src} (hr : HeapRel K w H η) (rv : RepV K w H v d) (h : sqOf d η = some src) : ∃ t a, v = .ref a ∧ SqOk K w H t a src ∧ (lisD d = true → t = false) := by
  have mk : ∀ {t : Bool} {a : Addr} {xs : List V} {ds : List D}, (∀ w' H', Ext w H w' H' → SqS K H' t a xs) → RepVs K w H xs ds → SqOk K w H t a (.val ds) := fun {t a xs ds} hs r => by
    refine ⟨⟨xs, hs w H .refl⟩, fun i w' H' η x ex _ hx => ?_, fun i w' H' η ex _ hf => ⟨xs, hs _ _ ex, by rw [r.length]; exact hf⟩, fun i w' H' η x ex _ hx => ⟨xs, hs _ _ ex, ?_⟩⟩
    · obtain ⟨v, hv, rv⟩ := r.get (show ds[i]? = some x from hx)
      exact ⟨_, v, hs _ _ ex, hv, rv.ext ex⟩
    · rw [r.length]; exact Nat.le_of_lt (List.getElem?_eq_some_iff.mp (show ds[i]? = some x from hx)).1
  cases d with
  | tup ds =>
    cases rv with | tup hs r => ?_
    cases h
    exact ⟨true, _, rfl, mk (fun _ _ ex => (hs.ext ex).sq) r, fun q => by cases q⟩
  | lst ds =>
    cases rv with | lst hs r => ?_
    cases h
    exact ⟨false, _, rfl, mk (fun _ _ ex => (hs.ext ex).sq) r, fun _ => rfl⟩
  | scr ds =>
    cases rv with | scr hs r => ?_
    cases h
    exact ⟨false, _, rfl, mk (fun _ _ ex => (hs.ext ex).sq) r, fun _ => rfl⟩
  | obj k =>
    cases rv with | obj ha => ?_
    dsimp only [sqOf] at h
    split at h
    · rename_i ds0 eo0
      cases h
      obtain ⟨ys, e0, _⟩ := hr.at_ _ _ _ ha eo0
      have get : ∀ {i : Nat} {w' : Wd} {H' : Hp} {η : Store} {r : Option D}, Ext w H w' H' → HeapRel K w' H' η → objAt k i η = some r → ∃ xs ds, SqL K H' _ xs ∧ RepVs K w' H' xs ds ∧ i ≤ ds.length ∧ ds[i]? = r := fun {i w' H' η r} ex hr' hx => by
        dsimp only [objAt] at hx
        cases eo : η[k]? with
        | none => rw [eo] at hx; cases hx
        | some ob =>
          rw [eo] at hx
          cases ob with
          | lst ds =>
            dsimp only at hx
            split at hx
            · rename_i hl
              obtain ⟨xs, eH, r⟩ := hr'.at_ _ _ _ (ex.toMv.get ha) eo
              exact ⟨xs, ds, SqL.of eH, r, hl, Option.some.inj hx⟩
            · cases hx
          | _ => cases hx
      have some_of : ∀ {i : Nat} {η : Store} {x : D}, (Src.dyn (objAt k)).at i η = some x → objAt k i η = some (some x) := fun {i η x} hx => by
        dsimp only [Src.at] at hx
        split at hx
        · rename_i e; cases hx; exact e
        · cases hx
      refine ⟨false, _, rfl, ⟨⟨ys, SqL.of e0⟩, fun i w' H' η x ex hr' hx => ?_, fun i w' H' η ex hr' hf => ?_, fun i w' H' η x ex hr' hx => ?_⟩, fun _ => rfl⟩
      · obtain ⟨xs, ds, hs, r, _, e⟩ := get ex hr' (some_of hx)
        obtain ⟨v, hv, rv⟩ := r.get e
        exact ⟨xs, v, hs, hv, rv⟩
      · obtain ⟨xs, ds, hs, r, hl, e⟩ := get ex hr' hf
        exact ⟨xs, hs, by rw [r.length]; exact Nat.le_antisymm (List.getElem?_eq_none_iff.mp e) hl⟩
      · obtain ⟨xs, ds, hs, r, hl, _⟩ := get ex hr' (some_of hx)
        exact ⟨xs, hs, by rw [r.length]; exact hl⟩
    · cases h
  | _ => cases h
theorem sqOk {v : V} {d : D} {src : Src} (hr : HeapRel K w H η) (rv : RepV K w H v d) (h : sqOf d η = some src) : ∃ t a, v = .ref a ∧ SqOk K w H t a src :=
  let ⟨t, a, e, k, _⟩ := sqOk3 hr rv h; ⟨t, a, e, k⟩
theorem sqOk_l {v : V} {d : D} {src : Src} (hr : HeapRel K w H η) (rv : RepV K w H v d) (h : sqOf d η = some src) (hl : lisD d = true) : ∃ a, v = .ref a ∧ SqOk K w H false a src := by
  obtain ⟨t, a, e, k, q⟩ := sqOk3 hr rv h
  rw [q hl] at k
  exact ⟨a, e, k⟩
def Src.look : Src → Nat → Store → Option (Option D)
  | .val xs, i, _ => if i ≤ xs.length then some xs[i]? else none
  | .dyn f, i, η => f i η
theorem look_at {src : Src} {i : Nat} {x : D} (h : src.look i η = some (some x)) : src.at i η = some x := by
  cases src with
  | val xs => dsimp only [Src.look] at h; split at h; exact Option.some.inj h; cases h
  | dyn f => dsimp only [Src.look] at h; dsimp only [Src.at]; rw [h]
theorem look_fin {src : Src} {i : Nat} (h : src.look i η = some none) : src.fin i η := by
  cases src with
  | val xs => dsimp only [Src.look] at h; split at h; exact Nat.le_antisymm (List.getElem?_eq_none_iff.mp (Option.some.inj h)) (by assumption); cases h
  | dyn f => exact h
def zipF (s1 s2 : Src) (i : Nat) (η : Store) : Option (Option D) := match s1.look i η with
  | none => none
  | some r1 => match s2.look i η with
    | none => none
    | some r2 => some (match r1 with
      | none => none
      | some x => match r2 with
        | none => none
        | some y => some (.tup [x, y]))
def zipS (s1 s2 : Src) : Src := match s1, s2 with
  | .val xs, .val ys => .val (List.zipWith (fun x y => .tup [x, y]) xs ys)
  | s1, s2 => .dyn (zipF s1 s2)
theorem itOk_zip {t1 t2 : Bool} {a b : Addr} {s1 s2 : Src} (h1 : SqOk K w H t1 a s1) (h2 : SqOk K w H t2 b s2) : ItOk K (It2 K t1 t2 a b) (zipS s1 s2) w H := by
  have go : ∀ i w' H' η x y, Ext w H w' H' → HeapRel K w' H' η → s1.at i η = some x → s2.at i η = some y →
      (It2 K t1 t2 a b).go i H' ∧ ∀ v H2, (It2 K t1 t2 a b).yld i H' v H2 → Ext w' H' w' H2 ∧ HeapRel K w' H2 η ∧ RepV K w' H2 v (.tup [x, y]) := fun i w' H' η x y ex hr e1 e2 => by
    obtain ⟨xs, v1, q1, f1, r1⟩ := h1.at_ i w' H' η x ex hr e1
    obtain ⟨ys, v2, q2, f2, r2⟩ := h2.at_ i w' H' η y ex hr e2
    refine ⟨⟨xs, ys, v1, v2, q1, q2, f1, f2⟩, fun v H2 ⟨T, u1, u2, ev, hn, eH, g1, g2⟩ => ?_⟩
    subst ev eH
    have k1 := g1 xs q1
    have k2 := g2 ys q2
    rw [f1] at k1; cases k1
    rw [f2] at k2; cases k2
    exact ⟨Ext.laid hn hr, hr.laid hn, RepV.newT hr (.cons r1 (.cons r2 .nil)) hn⟩
  have stop : ∀ i w' H' η, Ext w H w' H' → HeapRel K w' H' η → (s1.fin i η ∧ ((∃ y, s2.at i η = some y) ∨ s2.fin i η)) ∨ ((∃ x, s1.at i η = some x) ∧ s2.fin i η) → (It2 K t1 t2 a b).stop i H' := fun i w' H' η ex hr q => by
    rcases q with ⟨f1, ⟨y, e2⟩ | f2⟩ | ⟨⟨x, e1⟩, f2⟩
    · obtain ⟨xs, q1, l1⟩ := h1.fin i w' H' η ex hr f1
      obtain ⟨ys, q2, l2⟩ := h2.le i w' H' η y ex hr e2
      exact ⟨xs, ys, q1, q2, Nat.le_of_eq l1.symm, l2, .inl l1.symm⟩
    · obtain ⟨xs, q1, l1⟩ := h1.fin i w' H' η ex hr f1
      obtain ⟨ys, q2, l2⟩ := h2.fin i w' H' η ex hr f2
      exact ⟨xs, ys, q1, q2, Nat.le_of_eq l1.symm, Nat.le_of_eq l2.symm, .inl l1.symm⟩
    · obtain ⟨xs, q1, l1⟩ := h1.le i w' H' η x ex hr e1
      obtain ⟨ys, q2, l2⟩ := h2.fin i w' H' η ex hr f2
      exact ⟨xs, ys, q1, q2, l1, Nat.le_of_eq l2.symm, .inr l2.symm⟩
  have dyn : ItOk K (It2 K t1 t2 a b) (.dyn (zipF s1 s2)) w H := by
    have res : ∀ i η r, zipF s1 s2 i η = some r → ∃ r1 r2, s1.look i η = some r1 ∧ s2.look i η = some r2 ∧ r = (match r1 with
      | none => none
      | some x => match r2 with
        | none => none
        | some y => some (.tup [x, y])) := fun i η r h => by
      unfold zipF at h
      cases e1 : s1.look i η with
      | none => rw [e1] at h; cases h
      | some r1 =>
        rw [e1] at h
        cases e2 : s2.look i η with
        | none => rw [e2] at h; cases h
        | some r2 => rw [e2] at h; exact ⟨r1, r2, rfl, rfl, (Option.some.inj h).symm⟩
    refine ⟨fun i w' H' η x ex hr hx => ?_, fun i w' H' η ex hr hf => ?_⟩
    · dsimp only [Src.at] at hx
      cases ez : zipF s1 s2 i η with
      | none => rw [ez] at hx; cases hx
      | some r =>
        rw [ez] at hx
        obtain ⟨r1, r2, l1, l2, er⟩ := res i η r ez
        cases r1 with
        | none => subst er; cases hx
        | some x1 =>
          cases r2 with
          | none => subst er; cases hx
          | some x2 => subst er; cases hx; exact go i w' H' η _ _ ex hr (look_at l1) (look_at l2)
    · obtain ⟨r1, r2, l1, l2, er⟩ := res i η none hf
      cases r1 with
      | none =>
        refine stop i w' H' η ex hr (.inl ⟨look_fin l1, ?_⟩)
        cases r2 with
        | none => exact .inr (look_fin l2)
        | some y => exact .inl ⟨y, look_at l2⟩
      | some x1 =>
        cases r2 with
        | none => exact stop i w' H' η ex hr (.inr ⟨⟨x1, look_at l1⟩, look_fin l2⟩)
        | some x2 => cases er
  cases s1 with
  | dyn f => exact dyn
  | val xs =>
    cases s2 with
    | dyn f => exact dyn
    | val ys =>
      refine ⟨fun i w' H' η x ex hr hx => ?_, fun i w' H' η ex hr hf => ?_⟩
      · have hx' : (List.zipWith (fun x y => D.tup [x, y]) xs ys)[i]? = some x := hx
        rw [List.getElem?_zipWith] at hx'
        split at hx'
        · rename_i e1 e2
          cases hx'
          exact go i w' H' η _ _ ex hr e1 e2
        · cases hx'
      · have hf' : (List.zipWith (fun x y => D.tup [x, y]) xs ys).length = i := hf
        rw [List.length_zipWith] at hf'
        by_cases hl : xs.length ≤ ys.length
        · have e1 : xs.length = i := by omega
          refine stop i w' H' η ex hr (.inl ⟨e1, ?_⟩)
          by_cases hy : ys.length = i
          · exact .inr hy
          · exact .inl ⟨_, List.getElem?_eq_getElem (by omega)⟩
        · exact stop i w' H' η ex hr (.inr ⟨⟨_, List.getElem?_eq_getElem (show i < xs.length by omega)⟩, (show ys.length = i by omega)⟩)
theorem lt_one {a n : Addr} (h : a < n) : ∀ c ∈ [a], c < n := fun c hc => by
  have e : c = a := by simpa using hc
  rw [e]
  exact h
def iZip (fA : FA) : FI := fun ρ η => (fA ρ η).bind fun ds η => match ds with
  | [x, y] => (match sqOf x η, sqOf y η with
    | some s1, some s2 => .ok (zipS s1 s2) η
    | _, _ => .no)
  | _ => .no
/-- for a, b in zip(x, y) -/
theorem di_zip {elts : List Expr} {kk : Nat} (hm : X.mg "zip" = none) (ha : DA X W [e, e2] fA) (hg : Gl X "zip" := by rfl)
    (hs : starEach [e, e2] X.env = (false, eval e X.env) :: starEach [e2] X.env := by rfl) (hpl : (backTo pos (starEach [e2] X.env)).any (·.1) = false := by rfl) :
    DI X W (.Tuple elts kk tpos) (.Call (.Name "zip" p) [e, e2] [] pos) (iZip fA) := by
  refine ⟨fun pins s σ H R I ⟨w, ρ, η, rel, hp⟩ => ?_⟩
  refine Call_ (ld_blt I hg hm PyProof.Rows.boot_zip (PyProof.Rows.callWith_type1 (thn (ha.run pos pins s σ H _ I (rdA_then rel hp)) fun us s1 ⟨vs, H1, I1, r1, w1, ds, η1, ex, rel1, rv, p1⟩ => ?_) hs hpl))
  split at p1
  case h_2 => exact p1.elim
  rename_i x y
  split at p1
  case h_2 => exact p1.elim
  rename_i s1' s2' q1 q2
  cases rv with | cons rv1 rr => ?_
  cases rr with | cons rv2 rr => ?_
  cases rr
  obtain ⟨t1, a, ea, k1⟩ := sqOk rel1.heap rv1 q1
  obtain ⟨t2, b, eb, k2⟩ := sqOk rel1.heap rv2 q2
  subst ea eb
  cases r1 with | cons r1 rr => ?_
  cases rr with | cons r2 rr => ?_
  cases rr; cases r1; cases r2
  obtain ⟨xs, hx⟩ := k1.now
  obtain ⟨ys, hy⟩ := k2.now
  obtain ⟨its, _, pa, _⟩ := inv_seq I1 hx
  obtain ⟨its2, _, pb, _⟩ := inv_seq I1 hy
  have la := seq_lt I1 hx
  have lb := seq_lt I1 hy
  refine zip_begins2 (begins_s t1 a its.toArray) (begins_s t2 b its2.toArray) pa pb fun h' hz hTI hTO g1 g2 hsz hk => wpAny_pyIter_zip hz ?_
  have I2 : Inv X pins σ H1 { s1 with heap := h' } := I1.kept (t' := s1.toks) hk
  have D : ZipSep2 (s1.heap.objs.size + 4) (s1.heap.objs.size + 2) (s1.heap.objs.size + 3) s1.heap.objs.size (s1.heap.objs.size + 1) [s1.heap.objs.size, a] [s1.heap.objs.size + 1, b] :=
    zip_sep2 (N := s1.heap.objs.size) (fp1 := [a]) (fp2 := [b]) (lt_one la) (lt_one lb)
  refine ⟨s1.heap.objs.size + 4, [s1.heap.objs.size + 4, s1.heap.objs.size + 2, s1.heap.objs.size + 3, s1.heap.objs.size, s1.heap.objs.size + 1], _, It2 X.K t1 t2 a b, H1, rfl, I2, turn_zip2 D, ⟨hz, hTI, ⟨_, _, hTO⟩, .new g1, .new g2⟩, fun c hc => ?_, ?_⟩
  · have e' : c = s1.heap.objs.size + 4 ∨ c = s1.heap.objs.size + 2 ∨ c = s1.heap.objs.size + 3 ∨ c = s1.heap.objs.size ∨ c = s1.heap.objs.size + 1 := by simpa using hc
    have hle : s1.heap.objs.size ≤ c := by
      rcases e' with z | z | z | z | z
      · rw [z]; exact Nat.le_add_right _ _
      · rw [z]; exact Nat.le_add_right _ _
      · rw [z]; exact Nat.le_add_right _ _
      · rw [z]; exact Nat.le_refl _
      · rw [z]; exact Nat.le_add_right _ _
    exact I1.fpOk hle (I1.hok.fresh hle)
  · exact p1 _ w1 H1 .refl rel1.heap (itOk_zip k1 k2)
/-! ### enumerate -/
def enumS (s : Src) : Src := match s with
  | .val xs => .val (xs.zipIdx.map fun q => .tup [.int (q.2 : Nat), q.1])
  | .dyn f => .dyn fun i η => match f i η with
    | some (some x) => some (some (.tup [.int (i : Nat), x]))
    | some none => some none
    | none => none
theorem itOk_enum {t : Bool} {a : Addr} {s1 : Src} (h1 : SqOk K w H t a s1) : ItOk K (ItE K t a) (enumS s1) w H := by
  have go : ∀ i w' H' η x, Ext w H w' H' → HeapRel K w' H' η → s1.at i η = some x →
      (ItE K t a).go i H' ∧ ∀ v H2, (ItE K t a).yld i H' v H2 → Ext w' H' w' H2 ∧ HeapRel K w' H2 η ∧ RepV K w' H2 v (.tup [.int (i : Nat), x]) := fun i w' H' η x ex hr e1 => by
    obtain ⟨xs, v1, q1, f1, r1⟩ := h1.at_ i w' H' η x ex hr e1
    refine ⟨⟨xs, v1, q1, f1⟩, fun v H2 ⟨T, u1, ev, hn, eH, g1⟩ => ?_⟩
    subst ev eH
    have k1 := g1 xs q1
    rw [f1] at k1; cases k1
    exact ⟨Ext.laid hn hr, hr.laid hn, RepV.newT hr (.cons (.int _) (.cons r1 .nil)) hn⟩
  have stop : ∀ i w' H' η, Ext w H w' H' → HeapRel K w' H' η → s1.fin i η → (ItE K t a).stop i H' := fun i w' H' η ex hr f1 => by
    obtain ⟨xs, q1, l1⟩ := h1.fin i w' H' η ex hr f1
    exact ⟨xs, q1, l1.symm⟩
  cases s1 with
  | val xs =>
    refine ⟨fun i w' H' η x ex hr hx => ?_, fun i w' H' η ex hr hf => stop i w' H' η ex hr ?_⟩
    · have hx' : (xs.zipIdx.map fun q => D.tup [.int (q.2 : Nat), q.1])[i]? = some x := hx
      rw [List.getElem?_map, List.getElem?_zipIdx] at hx'
      cases e : xs[i]? with
      | none => rw [e] at hx'; cases hx'
      | some y =>
        rw [e] at hx'
        simp at hx'
        subst hx'
        exact go i w' H' η y ex hr e
    · have hf' : (xs.zipIdx.map fun q => D.tup [.int (q.2 : Nat), q.1]).length = i := hf
      show xs.length = i
      simpa using hf'
  | dyn f =>
    refine ⟨fun i w' H' η x ex hr hx => ?_, fun i w' H' η ex hr hf => stop i w' H' η ex hr ?_⟩
    · dsimp only [enumS, Src.at] at hx
      split at hx
      · rename_i z ez
        cases hx
        split at ez
        · rename_i e
          cases ez
          exact go i w' H' η _ ex hr (by dsimp only [Src.at]; rw [e])
        · cases ez
        · cases ez
      · cases hx
    · dsimp only [enumS, Src.fin] at hf
      split at hf
      · cases hf
      · rename_i e; exact e
      · cases hf
def iEnumS (fA : FA) : FI := fun ρ η => (fA ρ η).bind fun ds η => match ds with
  | [x] => (match sqOf x η with
    | some s1 => .ok (enumS s1) η
    | _ => .no)
  | _ => .no
theorem di_enum {elts : List Expr} {kk : Nat} (hm : X.mg "enumerate" = none) (ha : DA X W [e] fA) (hg : Gl X "enumerate" := by rfl)
    (hs : starEach [e] X.env = [(false, eval e X.env)] := by rfl) :
    DI X W (.Tuple elts kk tpos) (.Call (.Name "enumerate" p) [e] [] pos) (iEnumS fA) := by
  refine ⟨fun pins s σ H R I ⟨w, ρ, η, rel, hp⟩ => ?_⟩
  refine Call_ (ld_blt I hg hm boot_enumerate (PyProof.Rows.callWith_type1 (thn (ha.run pos pins s σ H _ I (rdA_then rel hp)) fun us s1 ⟨vs, H1, I1, r1, w1, ds, η1, ex, rel1, rv, p1⟩ => ?_) hs rfl))
  split at p1
  case h_2 => exact p1.elim
  rename_i x
  split at p1
  case h_2 => exact p1.elim
  rename_i s1' q1
  cases rv with | cons rv1 rr => ?_
  cases rr
  obtain ⟨t1, a, ea, k1⟩ := sqOk rel1.heap rv1 q1
  subst ea
  cases r1 with | cons r1 rr => ?_
  cases rr; cases r1
  obtain ⟨xs, hx⟩ := k1.now
  obtain ⟨its, _, pa, _⟩ := inv_seq I1 hx
  have la := seq_lt I1 hx
  refine enum_begins0 (begins_s t1 a its.toArray) pa fun h' he g1 hsz hk => wpAny_pyIter_enum he ?_
  have I2 : Inv X pins σ H1 { s1 with heap := h' } := I1.kept (t' := s1.toks) hk
  refine ⟨s1.heap.objs.size + 1, [s1.heap.objs.size + 1, s1.heap.objs.size], _, ItE X.K t1 a, H1, rfl, I2, turn_enumS (it := s1.heap.objs.size) (Nat.succ_ne_self _) (Nat.ne_of_gt (Nat.lt_succ_of_lt la)), ⟨⟨.none, by simpa using he⟩, .new g1⟩, fun c hc => ?_, ?_⟩
  · have e' : c = s1.heap.objs.size + 1 ∨ c = s1.heap.objs.size := by simpa using hc
    have hle : s1.heap.objs.size ≤ c := by
      rcases e' with z | z
      · rw [z]; exact Nat.le_add_right _ _
      · rw [z]; exact Nat.le_refl _
    exact I1.fpOk hle (I1.hok.fresh hle)
  · exact p1 _ w1 H1 .refl rel1.heap (itOk_enum k1)
/-! ### range -/
def rng (lo : Int) (n : Nat) : List D := (List.range n).map fun i => .int (lo + (i : Nat))
theorem itOk_rng {lo : Int} {n : Nat} : ItOk K (Itr lo n) (.val (rng lo n)) w H := by
  refine ⟨fun i w' H' η x ex hr hx => ?_, fun i w' H' η ex hr hf => ?_⟩
  · have hx' : ((List.range n).map fun i => D.int (lo + (i : Nat)))[i]? = some x := hx
    rw [List.getElem?_map] at hx'
    by_cases hi : i < n
    · rw [List.getElem?_range hi] at hx'
      cases hx'
      refine ⟨hi, fun v H2 ⟨e1, e2⟩ => ?_⟩
      subst e1 e2
      exact ⟨.refl, hr, .int _⟩
    · rw [List.getElem?_eq_none (by simpa using hi)] at hx'; cases hx'
  · have hf' : (rng lo n).length = i := hf
    show n ≤ i
    rw [← hf']; simp [rng]
def big62 (i : Int) : Prop := -(2 ^ 62) ≤ i ∧ i < 2 ^ 62
instance (i : Int) : Decidable (big62 i) := by unfold big62; infer_instance
def iRng1 (fA : FA) : FI := fun ρ η => (fA ρ η).bind fun ds η => match ds with
  | [.int j] => if big62 j then .ok (.val (rng 0 j.toNat)) η else .no
  | _ => .no
def iRng2 (fA : FA) : FI := fun ρ η => (fA ρ η).bind fun ds η => match ds with
  | [.int i, .int j] => if big62 i ∧ big62 j then .ok (.val (rng i (j - i).toNat)) η else .no
  | _ => .no
theorem di_range1 {tg : Expr} (hm : X.mg "range" = none) (ha : DA X W [e] fA) (hg : Gl X "range" := by rfl) (hs : starEach [e] X.env = [(false, eval e X.env)] := by rfl) : DI X W tg (.Call (.Name "range" p) [e] [] pos) (iRng1 fA) :=
  PI.imp (pi_range1 hg hm ha hs) fun σ H R ⟨w, ρ, η, rel, p⟩ => by
    obtain ⟨w, ρ, η, rel, q⟩ := rdA_then rel p
    refine ⟨w, ρ, η, rel, q.imp fun vs H1 ⟨w1, ds, η1, e, rel1, rv, p1⟩ => ?_⟩
    split at p1
    · split at p1
      · rename_i hb
        cases rv with | cons r1 rr => ?_
        cases rr; cases r1
        exact ⟨_, rfl, hb.1, hb.2, p1 _ w1 H1 .refl rel1.heap itOk_rng⟩
      · exact p1.elim
    · exact p1.elim
theorem di_range2 {tg : Expr} (hm : X.mg "range" = none) (ha : DA X W [e, e2] fA) (hg : Gl X "range" := by rfl) (hs : starEach [e, e2] X.env = [(false, eval e X.env), (false, eval e2 X.env)] := by rfl) (hs2 : starEach [e2] X.env = [(false, eval e2 X.env)] := by rfl) :
    DI X W tg (.Call (.Name "range" p) [e, e2] [] pos) (iRng2 fA) :=
  PI.imp (pi_range2 hg hm ha hs hs2) fun σ H R ⟨w, ρ, η, rel, p⟩ => by
    obtain ⟨w, ρ, η, rel, q⟩ := rdA_then rel p
    refine ⟨w, ρ, η, rel, q.imp fun vs H1 ⟨w1, ds, η1, e, rel1, rv, p1⟩ => ?_⟩
    split at p1
    · split at p1
      · rename_i hb
        cases rv with | cons r1 rr => ?_
        cases rr with | cons r2 rr => ?_
        cases rr; cases r1; cases r2
        exact ⟨_, _, rfl, ⟨hb.1.1, hb.1.2, hb.2.1, hb.2.2⟩, p1 _ w1 H1 .refl rel1.heap itOk_rng⟩
      · exact p1.elim
    · exact p1.elim
end
end Dn
/-! Dn part 9: isinstance, sums, greatest and least, dicts of pairs, sorted. -/
namespace Dn
open PySem PySem.Spec PyProof.Rows L2
section
variable {X : Cx} {W : WX} {K : PySem.W.Frag} {w w1 w' : Wd} {H H1 H' : Hp} {η : Store}
/-! ### isinstance of built-in types -/
inductive Ty where
  | non | bool | int | str | tuple | list | dict
  deriving DecidableEq
def Ty.nm : Ty → String
  | .non => "NoneType" | .bool => "bool" | .int => "int" | .str => "str" | .tuple => "tuple" | .list => "list" | .dict => "dict"
def tyOf : D → Store → Option Ty
  | .non, _ => some .non
  | .bl _, _ => some .bool
  | .int _, _ => some .int
  | .str _, _ => some .str
  | .tup _, _ => some .tuple
  | .lst _, _ => some .list
  | .scr _, _ => some .list
  | .obj i, η => match η[i]? with
    | some (.lst _) => some .list
    | some (.dK _) => some .dict
    | some (.dT _) => some .dict
    | _ => none
  | _, _ => none
theorem tyOf_ok {v : V} {d : D} {t : Ty} (hr : HeapRel K w H η) (rv : RepV K w H v d) (h : tyOf d η = some t) : TyX K H v (.type t.nm) := by
  cases d with
  | non => cases rv; cases h; exact .base .non
  | bl b => cases rv; cases h; exact .base (.bl b)
  | int i => cases rv; cases h; exact .base (.int i)
  | str x => cases rv; cases h; exact .base (.str x)
  | tup xs =>
    cases rv with | tup hs r => ?_
    cases h
    exact .base (.tup hs.1)
  | lst xs =>
    cases rv with | lst hs r => ?_
    cases h
    exact .base (.lst hs.1)
  | scr xs =>
    cases rv with | scr hs r => ?_
    cases h
    rcases hs with ⟨hs | ⟨o, hs⟩, _⟩ | ⟨o, its, n, hk, hc, _⟩
    · exact .base (.lst hs)
    · exact .base (.frz hs)
    · exact .kList hk hc
  | obj i =>
    cases rv with | obj ha => ?_
    dsimp only [tyOf] at h
    cases eo : η[i]? with
    | none => rw [eo] at h; cases h
    | some ob =>
      rw [eo] at h
      cases ob with
      | lst xs => cases h; obtain ⟨ys, e, _⟩ := hr.at_ _ _ _ ha eo; exact .base (.lst e)
      | dK xs => cases h; obtain ⟨ys, e, _⟩ := hr.at_ _ _ _ ha eo; exact .base (.dK e)
      | dT xs => cases h; obtain ⟨ys, e, _⟩ := hr.at_ _ _ _ ha eo; exact .base (.dT e)
      | ins c fs => cases h
      | lkK od xs fs => cases h
      | lkT od xs fs => cases h
  | gl x => cases h
  | ty n => cases h
  | adr a => cases h
def tyB : Ty → Ty → Bool
  | .bool, .int => true
  | a, b => decide (a = b)
theorem tyB_ok (a b : Ty) (hb : b ≠ .non) : PySem.W.kitOne K (.type a.nm) (.type b.nm) = some (tyB a b) := by
  cases b with
  | non => exact absurd rfl hb
  | bool => cases a <;> exact kit_ty (by decide +kernel)
  | int => cases a <;> exact kit_ty (by decide +kernel)
  | str => cases a <;> exact kit_ty (by decide +kernel)
  | tuple => cases a <;> exact kit_ty (by decide +kernel)
  | list => cases a <;> exact kit_ty (by decide +kernel)
  | dict => cases a <;> exact kit_ty (by decide +kernel)
def tyNm : String → Option Ty
  | "bool" => some .bool | "int" => some .int | "str" => some .str | "tuple" => some .tuple | "list" => some .list | "dict" => some .dict | _ => none
theorem tyNm_ok {n : String} {t : Ty} (h : tyNm n = some t) : t.nm = n ∧ t ≠ .non := by
  unfold tyNm at h
  split at h <;> first | (cases h; exact ⟨rfl, by decide⟩) | cases h
def isiD : GL := fun ds η => match ds with
  | [d, .ty n] => (match tyOf d η with
    | some a => (match tyNm n with
      | some b => some (.bl (tyB a b), η)
      | none => none)
    | none => none)
  | _ => none
theorem callD_isi : CallR X (.builtin "isinstance") (rdL X.K isiD) := call_of call_isi fun hr r h p => by
  unfold isiD at h
  split at h
  · rename_i d n
    split at h
    · rename_i a ea
      split at h
      · rename_i b eb
        cases h
        cases r with | cons r1 rr => ?_
        cases rr with | cons r2 rr => ?_
        cases rr; cases r2
        obtain ⟨e, ne⟩ := tyNm_ok eb
        refine ⟨_, _, _, _, _, rfl, .ty n, tyOf_ok hr r1 ea, ?_, val_of p hr (.bl _)⟩
        rw [← e]
        exact tyB_ok a b ne
      · cases h
    · cases h
  · cases h
/-! ### sum, max, min -/
theorem iter_tupW {prog : Program} {wl : World} {A : Around} {E : Value → Shared → Prop} {s : Shared} {l : Addr} {its : Array Value} {Q : Value → Shared → Prop} (hl : s.heap.IsTuple l its)
    (h : ∀ s₂ : Shared, s₂ = { s with heap := s.heap.push { cls := .type "tuple_iterator", data := .fields #[.ref l, .int 0 0] } } →
      (s₂.heap.IsTupleIter s.heap.objs.size l 0 ∧ s₂.heap.IsTuple l its) → (∀ b ∈ [s.heap.objs.size, l], b < s₂.heap.objs.size) → l ≠ s.heap.objs.size → Q (.ref s.heap.objs.size) s₂) :
    wpAny (model prog wl) A (pyIter (.ref l)) Q E s := by
  have hlt : l < s.heap.objs.size := by obtain ⟨_, e, _⟩ := hl; exact Heap.lt_size e
  refine wpAny_pyIter_tuple hl (h _ rfl ⟨⟨_, Heap.get?_push_size _ rfl, rfl, rfl⟩, hl.push _⟩ (fun b hb => ?_) (Nat.ne_of_lt hlt))
  show b < (s.heap.push _).objs.size
  rw [Heap.size_push]
  have e : b = s.heap.objs.size ∨ b = l := by simpa using hb
  rcases e with e | e
  · rw [e]; exact Nat.lt_succ_self _
  · rw [e]; exact Nat.lt_succ_of_lt hlt
theorem keptW {s : Shared} {o : Obj} {h' : Heap} (hk : ∀ b ob, b ∉ [s.heap.objs.size] → (s.heap.push o).get? b = some ob → h'.get? b = some ob) : ∀ b ob, s.heap.get? b = some ob → h'.get? b = some ob := fun b ob e =>
  hk b ob (by simpa using Nat.ne_of_lt (Heap.lt_size e)) (Heap.get?_push_of_some _ e)
def rSumT (K : PySem.W.Frag) : List V → Hp → VK → Prop := fun vs H Q => ∃ (a : Addr) (ns : List Int), vs = [V.ref a] ∧ SqT K H a (ns.map V.int) ∧ Q (.int ns.sum) H
theorem cr_sumT (hc : X.calm = true) : CallR X (.builtin "sum") (rSumT X.K) := by
  intro pins s σ H vs us Q I r h
  obtain ⟨a, ns, rfl, hs, q⟩ := h
  obtain ⟨its, rv, hl, _⟩ := I.tuple hs
  rw [Vals.ref1 r]
  refine call_sum_walkG (iter_tupW hl fun s₂ e st hfp hlI => ?_)
  subst e
  refine ⟨_, _, _, _, _, _, fun i => ns.getD i 0, rfl, Walks.tuple (A := X.A.in1) (I.ok.hd hc) _ a hlI its.toArray, st, hfp, fun i v hv => ?_, fun h' tk t' hk => ?_⟩
  · have hv' : its[i]? = some v := by simpa using hv
    have hi : i < ns.length := by
      have := (List.getElem?_eq_some_iff.mp hv').1
      have l := rv.length
      simp at l; omega
    obtain ⟨u, hu, ru⟩ := rv.get (i := i) (x := .int (ns[i])) (by rw [List.getElem?_map, List.getElem?_eq_getElem hi]; rfl)
    rw [hv'] at hu; cases hu
    obtain ⟨t, rfl⟩ := ru
    exact ⟨t, by simp [List.getD, List.getElem?_eq_getElem hi]⟩
  · refine ⟨.int ns.sum, H, I.kept (keptW hk), ⟨t', ?_⟩, q⟩
    have l := rv.length
    simp at l
    rw [preSum_getD, List.take_of_length_le (by simp; omega)]
def seqA : D → Store → Option (List D)
  | .tup xs, _ => some xs
  | d, η => seqL d η
def sumD : GL := fun ds η => match ds with
  | [.tup xs] => (intsOf xs).map fun ns => (.int ns.sum, η)
  | [d] => match seqL d η with
    | some xs => (intsOf xs).map fun ns => (.int ns.sum, η)
    | none => none
  | _ => none
theorem callD_sum (hc : X.calm = true) : CallR X (.builtin "sum") (rdL X.K sumD) := call_of (CallR.or (cr_sum hc) (cr_sumT hc)) fun hr r h p => by
  unfold sumD at h
  split at h
  · rename_i xs
    cases r with | cons r1 rr => ?_
    cases rr
    cases r1 with | tup hs q => ?_
    cases eb : intsOf xs with
    | none => rw [eb] at h; cases h
    | some ns => rw [eb] at h; cases h; exact .inr ⟨_, ns, rfl, by rw [← ints_ok q eb]; exact hs.sq, val_of p hr (.int _)⟩
  · split at h
    · rename_i e
      cases r with | cons r1 rr => ?_
      cases rr
      obtain ⟨a, ys, rfl, s, q⟩ := seqL_ok hr r1 e
      cases eb : intsOf ‹List D› with
      | none => rw [eb] at h; cases h
      | some ns => rw [eb] at h; cases h; exact .inl ⟨_, ns, rfl, by rw [← ints_ok q eb]; exact s, val_of p hr (.int _)⟩
    · cases h
  · cases h
/-! ### sorted of ints -/
def insI (x : Int) : List Int → List Int
  | [] => [x]
  | y :: r => if x ≤ y then x :: y :: r else y :: insI x r
def sortI : List Int → List Int
  | [] => []
  | x :: r => insI x (sortI r)
theorem insI_perm (x : Int) : ∀ l : List Int, (insI x l).Perm (x :: l)
  | [] => .refl _
  | y :: r => by
    unfold insI
    split
    · exact .refl _
    · exact ((insI_perm x r).cons y).trans (.swap x y r)
theorem sortI_perm : ∀ l : List Int, (sortI l).Perm l
  | [] => .refl _
  | x :: r => (insI_perm x _).trans ((sortI_perm r).cons x)
theorem insI_sorted (x : Int) : ∀ l : List Int, l.Pairwise (· ≤ ·) → (insI x l).Pairwise (· ≤ ·)
  | [], _ => by simp [insI]
  | y :: r, h => by
    unfold insI
    have h' := List.pairwise_cons.mp h
    split
    · rename_i hx
      refine List.pairwise_cons.mpr ⟨fun z hz => ?_, h⟩
      rcases List.mem_cons.mp hz with e | hz
      · subst e; exact hx
      · exact Int.le_trans hx (h'.1 z hz)
    · rename_i hx
      refine List.pairwise_cons.mpr ⟨fun z hz => ?_, insI_sorted x r h'.2⟩
      rcases List.mem_cons.mp ((insI_perm x r).mem_iff.mp hz) with e | hz
      · subst e; omega
      · exact h'.1 z hz
theorem sortI_sorted : ∀ l : List Int, (sortI l).Pairwise (· ≤ ·)
  | [] => .nil
  | x :: r => insI_sorted x _ (sortI_sorted r)
theorem sorted_eq : ∀ {l m : List Int}, l.Perm m → l.Pairwise (· ≤ ·) → m.Pairwise (· ≤ ·) → l = m
  | [], m, h, _, _ => by rw [h.nil_eq]
  | x :: l, [], h, _, _ => by have := h.length_eq; simp at this
  | x :: l, y :: m, h, hl, hm => by
    have hl' := List.pairwise_cons.mp hl
    have hm' := List.pairwise_cons.mp hm
    have e : x = y := by
      have h1 : y ∈ x :: l := h.mem_iff.mpr List.mem_cons_self
      have h2 : x ∈ y :: m := h.mem_iff.mp List.mem_cons_self
      rcases List.mem_cons.mp h1 with e | h1
      · exact e.symm
      · rcases List.mem_cons.mp h2 with e | h2
        · exact e
        · have := hl'.1 y h1; have := hm'.1 x h2; omega
    subst e
    rw [sorted_eq (List.Perm.cons_inv h) hl'.2 hm'.2]
theorem sortI_of {ns ys : List Int} (h : ys.Perm ns) (hs : ys.Pairwise (· ≤ ·)) : ys = sortI ns := sorted_eq (h.trans (sortI_perm ns).symm) hs (sortI_sorted ns)
/-! ### dicts -/
def keyD : D → Option Key
  | .int i => some (.inl i)
  | .str x => some (.inr x)
  | _ => none
def dK : Key → D
  | .inl i => .int i
  | .inr x => .str x
theorem keyD_ok {v : V} {d : D} {k : Key} (r : RepV K w H v d) (h : keyD d = some k) : v = kV k ∧ d = dK k := by
  cases d with
  | int i => cases r; cases h; exact ⟨rfl, rfl⟩
  | str x => cases r; cases h; exact ⟨rfl, rfl⟩
  | _ => cases h
theorem rep_key (k : Key) : RepV K w H (kV k) (dK k) := by
  cases k with
  | inl i => exact .int i
  | inr x => exact .str x
section
variable {κ : Type} [DecidableEq κ]
def putD (kvs : List (κ × D)) (k : κ) (v : D) : List (κ × D) :=
  if (kvs.any fun kv => decide (kv.1 = k)) = true then kvs.map (fun kv => if kv.1 = k then (kv.1, v) else kv) else kvs ++ [(k, v)]
def getD (kvs : List (κ × D)) (k : κ) : Option D := (kvs.find? fun kv => decide (kv.1 = k)).map (·.2)
def dropD (kvs : List (κ × D)) (k : κ) : List (κ × D) := kvs.filter fun kv => decide (kv.1 ≠ k)
theorem repF_nil : RepF (κ := κ) K w H [] [] := ⟨rfl, .nil⟩
theorem repF_cons {p : κ × V} {q : κ × D} {xs : List (κ × V)} {fs : List (κ × D)} : RepF K w H (p :: xs) (q :: fs) ↔ p.1 = q.1 ∧ RepV K w H p.2 q.2 ∧ RepF K w H xs fs := by
  constructor
  · rintro ⟨e, r⟩
    cases r with | cons r1 r2 => ?_
    have e' := List.cons_eq_cons.mp (show p.1 :: xs.map (·.1) = q.1 :: fs.map (·.1) from e)
    exact ⟨e'.1, r1, e'.2, r2⟩
  · rintro ⟨e, r, f⟩
    exact ⟨by rw [List.map_cons, List.map_cons, e, f.1], .cons r f.2⟩
theorem repF_length {xs : List (κ × V)} {fs : List (κ × D)} (h : RepF K w H xs fs) : xs.length = fs.length := by simpa using congrArg List.length h.1
theorem repF_append : ∀ {xs ys : List (κ × V)} {fs gs : List (κ × D)}, RepF K w H xs fs → RepF K w H ys gs → RepF K w H (xs ++ ys) (fs ++ gs) := fun h h' =>
  ⟨by rw [List.map_append, List.map_append, h.1, h'.1], by rw [List.map_append, List.map_append]; exact h.2.append h'.2⟩
theorem repF_any {xs : List (κ × V)} {fs : List (κ × D)} (k : κ) (h : RepF K w H xs fs) : (xs.any fun kv => decide (kv.1 = k)) = fs.any fun kv => decide (kv.1 = k) := by
  have e1 : (xs.any fun kv => decide (kv.1 = k)) = (xs.map (·.1)).any fun x => decide (x = k) := by rw [List.any_map]; rfl
  have e2 : (fs.any fun kv => decide (kv.1 = k)) = (fs.map (·.1)).any fun x => decide (x = k) := by rw [List.any_map]; rfl
  rw [e1, e2, h.1]
theorem repF_repl {k : κ} {v : V} {d : D} (r : RepV K w H v d) : ∀ {xs : List (κ × V)} {fs : List (κ × D)}, RepF K w H xs fs → RepF K w H (xs.map fun kv => if kv.1 = k then (kv.1, v) else kv) (fs.map fun kv => if kv.1 = k then (kv.1, d) else kv)
  | [], [], _ => repF_nil
  | [], _ :: _, h => by have := repF_length h; simp at this
  | _ :: _, [], h => by have := repF_length h; simp at this
  | p :: xs, q :: fs, h => by
    obtain ⟨e, r1, h1⟩ := repF_cons.mp h
    rw [List.map_cons, List.map_cons]
    refine repF_cons.mpr ⟨?_, ?_, repF_repl r h1⟩
    · rw [e]; split <;> first | rfl | exact e
    · rw [e]; split
      · exact r
      · exact r1
theorem repF_put {xs : List (κ × V)} {fs : List (κ × D)} {k : κ} {v : V} {d : D} (h : RepF K w H xs fs) (r : RepV K w H v d) : RepF K w H (putK xs k v) (putD fs k d) := by
  unfold putK putD
  rw [repF_any k h]
  split
  · exact repF_repl r h
  · exact repF_append h (repF_cons.mpr ⟨rfl, r, repF_nil⟩)
theorem repF_get {k : κ} : ∀ {xs : List (κ × V)} {fs : List (κ × D)}, RepF K w H xs fs → (∀ d, getD fs k = some d → ∃ v, valV xs k = some v ∧ RepV K w H v d) ∧ (getD fs k = none → valV xs k = none)
  | [], [], _ => ⟨fun d h => (by cases h), fun _ => rfl⟩
  | [], _ :: _, h => by have := repF_length h; simp at this
  | _ :: _, [], h => by have := repF_length h; simp at this
  | p :: xs, q :: fs, h => by
    obtain ⟨e, r1, h1⟩ := repF_cons.mp h
    have ih := repF_get (k := k) h1
    by_cases hk : q.1 = k
    · have e1 : getD (q :: fs) k = some q.2 := by simp [getD, hk]
      have e2 : valV (p :: xs) k = some p.2 := valV_pos (e.trans hk)
      rw [e1, e2]
      exact ⟨fun d h => by cases h; exact ⟨_, rfl, r1⟩, fun h => by cases h⟩
    · have e1 : getD (q :: fs) k = getD fs k := by simp [getD, hk]
      have e2 : valV (p :: xs) k = valV xs k := valV_neg (fun z => hk (e.symm.trans z))
      rw [e1, e2]
      exact ih
theorem length_putD (kvs : List (κ × D)) (k : κ) (v : D) : (putD kvs k v).length ≤ kvs.length + 1 := by
  unfold putD
  split
  · simp
  · simp
end
def mergeD (kvs more : List (Key × D)) : List (Key × D) := more.foldl (fun acc kv => putD acc kv.1 kv.2) kvs
theorem repF_merge : ∀ {more : List (Key × V)} {ms : List (Key × D)} {xs : List (Key × V)} {fs : List (Key × D)}, RepF K w H more ms → RepF K w H xs fs → RepF K w H (mergeK xs more) (mergeD fs ms)
  | [], [], _, _, _, h => h
  | [], _ :: _, _, _, h, _ => by have := repF_length h; simp at this
  | _ :: _, [], _, _, h, _ => by have := repF_length h; simp at this
  | p :: more, q :: ms, xs, fs, h, g => by
    obtain ⟨e, r1, h1⟩ := repF_cons.mp h
    show RepF K w H (mergeK (putK xs p.1 p.2) more) (mergeD (putD fs q.1 q.2) ms)
    rw [e]
    exact repF_merge h1 (repF_put g r1)
/-- pairs (key, value) -/
theorem tup_inv {v : V} {ds : List D} (r : RepV K w H v (.tup ds)) : ∃ (a : Addr) (ys : List V), v = .ref a ∧ StT K w H a ys ∧ RepVs K w H ys ds := by
  cases r with | tup hs q => exact ⟨_, _, rfl, hs, q⟩
theorem reps_cons {vs : List V} {d : D} {ds : List D} (r : RepVs K w H vs (d :: ds)) : ∃ (x : V) (xs : List V), vs = x :: xs ∧ RepV K w H x d ∧ RepVs K w H xs ds := by
  cases r with | cons p q => exact ⟨_, _, rfl, p, q⟩
theorem reps_nil {vs : List V} (r : RepVs K w H vs []) : vs = [] := by cases r; rfl
def pairD : D → Option (Key × D)
  | .tup [k, v] => (keyD k).map (·, v)
  | _ => none
def pairsD : List D → Option (List (Key × D))
  | [] => some []
  | d :: r => (pairD d).bind fun kv => (pairsD r).map (kv :: ·)
theorem pairD_ok {v : V} {d : D} {kv : Key × D} (r : RepV K w H v d) (h : pairD d = some kv) : ∃ (a : Addr) (x : V), v = .ref a ∧ SqT K H a [kV kv.1, x] ∧ RepV K w H x kv.2 := by
  unfold pairD at h
  split at h
  · rename_i k0 v0
    cases ek : keyD k0 with
    | none => rw [ek] at h; cases h
    | some k =>
      rw [ek] at h; cases h
      obtain ⟨a, ys, rfl, hs, q⟩ := tup_inv r
      obtain ⟨y1, ys1, rfl, q1, q2⟩ := reps_cons q
      obtain ⟨y2, ys2, rfl, q3, q4⟩ := reps_cons q2
      obtain rfl := reps_nil q4
      obtain ⟨e1, e2⟩ := keyD_ok q1 ek
      exact ⟨a, y2, rfl, e1 ▸ hs.sq, q3⟩
  · cases h
theorem pairsD_ok : ∀ {vs : List V} {ds : List D} {kvs : List (Key × D)}, RepVs K w H vs ds → pairsD ds = some kvs →
    ∃ (ps : List Addr) (xs : List (Key × V)), vs = ps.map V.ref ∧ Paired (fun p kv => SqT K H p [kV kv.1, kv.2]) ps xs ∧ RepF K w H xs kvs
  | _, _, _, .nil, h => by cases h; exact ⟨[], [], rfl, .nil, repF_nil⟩
  | _, _, _, .cons (v := v) (d := d) (ds := ds) r rs, h => by
    have h' : ((pairD d).bind fun kv => (pairsD ds).map (kv :: ·)) = some _ := h
    cases e1 : pairD d with
    | none => rw [e1] at h'; cases h'
    | some kv =>
      cases e2 : pairsD ds with
      | none => rw [e1, e2] at h'; cases h'
      | some kvs0 =>
        rw [e1, e2] at h'; cases h'
        obtain ⟨ps, xs, ev, pp, rf⟩ := pairsD_ok rs e2
        obtain ⟨a, x, rfl, hs, q⟩ := pairD_ok r e1
        exact ⟨a :: ps, (kv.1, x) :: xs, by rw [ev]; rfl, .cons hs pp, repF_cons.mpr ⟨rfl, q, rf⟩⟩
def dictD : GL := fun ds η => match ds with
  | [d] => match seqL d η with
    | some xs => (match pairsD xs with
      | some kvs => some (.obj η.length, η ++ [.dK (mergeD [] kvs)])
      | none => none)
    | none => none
  | _ => none
theorem callD_dict (hc : X.calm = true) : CallR X (.type "dict") (rdL X.K dictD) := call_of (call_dictP hc) fun {xs H Q w η ds z η'} hr r h p => by
  unfold dictD at h
  split at h
  · split at h
    · rename_i e
      split at h
      · rename_i kvs ek
        cases h
        cases r with | cons r1 rr => ?_
        cases rr
        obtain ⟨a, ys, rfl, s, q⟩ := seqL_ok hr r1 e
        obtain ⟨ps, xs, ev, pp, rf⟩ := pairsD_ok q ek
        subst ev
        refine ⟨a, ps, xs, rfl, s, pp, fun b hb => p _ _ _ (Ext.more hb hr) (hr.more hb ⟨_, upd_same, ?_⟩) (.obj (hr.ixO b))⟩
        exact repF_merge (rf.ext (Ext.more hb hr)) repF_nil
      · cases h
    · cases h
  · cases h
def intKeys : List Key → Option (List Int)
  | [] => some []
  | .inl i :: r => (intKeys r).map (i :: ·)
  | _ => none
theorem intKeys_ok : ∀ {ks : List Key} {ns : List Int}, intKeys ks = some ns → ks = ns.map Sum.inl
  | [], _, h => by cases h; rfl
  | .inl i :: r, _, h => by
    have h' : (intKeys r).map (i :: ·) = some _ := h
    cases e : intKeys r with
    | none => rw [e] at h'; cases h'
    | some ms => rw [e] at h'; cases h'; rw [intKeys_ok e]; rfl
  | .inr _ :: _, _, h => by cases h
/-- sorted of a list of ints; of a dict whose keys are ints -/
def sortedD : GL := fun ds η => match ds with
  | [d] => match seqL d η with
    | some xs => (intsOf xs).map fun ns => (.lst ((sortI ns).map D.int), η)
    | none => match d with
      | .obj i => (match η[i]? with
        | some (.dK kvs) => (match intKeys (kvs.map (·.1)) with
          | some ns => if ns.length < 64 then some (.lst ((sortI ns).map D.int), η) else none
          | none => none)
        | _ => none)
      | _ => none
  | _ => none
theorem callD_sorted (hc : X.calm = true) : CallR X (.builtin "sorted") (rdL X.K sortedD) := call_of (CallR.or cr_sortedI (call_sortedDI hc)) fun hr r h p => by
  unfold sortedD at h
  split at h
  · cases r with | cons r1 rr => ?_
    cases rr
    split at h
    · rename_i e
      obtain ⟨a, ys, rfl, s, q⟩ := seqL_ok hr r1 e
      cases eb : intsOf ‹List D› with
      | none => rw [eb] at h; cases h
      | some ns =>
        rw [eb] at h; cases h
        refine .inl ⟨_, ns, rfl, by rw [← ints_ok q eb]; exact s, fun ns' b hp hs hb => ?_⟩
        rw [sortI_of hp hs]
        exact lst_of p hr (ints_rep _) hb
    · split at h
      · rename_i i _
        split at h
        · rename_i kvs eo
          split at h
          · rename_i ns en
            split at h
            · rename_i hl
              cases h
              cases r1 with | obj ha => ?_
              obtain ⟨xs, eH, rf⟩ := hr.at_ _ _ _ ha eo
              refine .inr ⟨_, xs, ns, rfl, .inl eH, by rw [rf.1]; exact intKeys_ok en, hl, fun ys b hp hs hb => ?_⟩
              rw [sortI_of hp hs]
              exact lst_of p hr (ints_rep _) hb
            · cases h
          · cases h
        · cases h
      · cases h
  · cases h
end
end Dn
/-! Dn part 10: what is never reached; things that change: o[i] = v, methods. -/
namespace Dn
open PySem PySem.Spec PyProof.Rows L2
section
variable {X : Cx} {W : WX} {K : PySem.W.Frag} {w w1 w' : Wd} {σ : L2.St} {H H1 H' : Hp} {ρ : Env} {η η1 : Store} {fa fb fc f : FE} {a b c e : Expr} {es : List Expr} {pos p : Pos} {fA : FA}
/-! ### nothing is said of it -/
def noE : FE := fun _ _ => .no
def noT : FT := fun _ _ => .no
def noS : FS := fun _ _ => .no
def noF : FF := fun _ _ => .no
theorem de_no : DE X W e noE := ⟨fun pins s σ H Q I ⟨w, ρ, η, rel, p⟩ => p.elim⟩
theorem dt_no : DT X W e noT := ⟨fun pins s σ H Q I ⟨w, ρ, η, rel, p⟩ => p.elim⟩
theorem ds_no {st : Stmt} : DS X W st noS := ⟨fun pins s σ H D I ⟨w, ρ, η, rel, p⟩ => p.elim⟩
theorem dss_no {ss : List Stmt} : DSs X W ss noS := ⟨fun pins s σ H D I ⟨w, ρ, η, rel, p⟩ => p.elim⟩
theorem fn_no {P : Program} {wl : World} {mg : Str → Option Value} {base : Heap} {CX : CXT} {k n : Nat} {f : Addr} {fd : FuncData} {ps : List Str} : FnOk P wl K mg base CX k f fd ps (spD K n noF) :=
  ⟨fun vs H Q E ⟨w, η, ds, hr, rv, hl, p⟩ => p.elim, fun A outer s H args us vs Q E hr he hb hv ⟨w, η, ds, h1, rv, hl, p⟩ => p.elim⟩
/-! ### o[i] = v -/
abbrev GSet := D → D → D → Store → Option Store
def rdSet (K : PySem.W.Frag) (g : GSet) : TSet := fun o i v H Q => ∃ w η d1 d2 d3, HeapRel K w H η ∧ RepV K w H o d1 ∧ RepV K w H i d2 ∧ RepV K w H v d3 ∧
  match g d1 d2 d3 η with
  | some η' => ∀ w' H', Ext w H w' H' → HeapRel K w' H' η' → Q H'
  | none => False
def sSetIx (g : GSet) (f fo fi : FE) : FS := fun ρ η => (f ρ η).bindS ρ fun v η => (fo ρ η).bindS ρ fun o η => (fi ρ η).bindS ρ fun i η => match g o i v η with
  | some η => .nx ρ η
  | none => .no
theorem ds_setIx {o i : Expr} {fo fi : FE} {g : GSet} {p2 : Pos} (hs : PSet X (rdSet X.K g)) (he : DE X W e f) (ho : DE X W o fo) (hi : DE X W i fi)
    (ha : ∀ v, assign (.Subscript o i p2) X.env v = (do
      let ov ← holding [v] (eval o X.env)
      let iv ← holding [v, ov] (eval i X.env)
      standAt p2
      holding [v, ov, iv] (setItem ov iv v)
      release [v, ov, iv] []) := by intro _; rfl)
    (h1 : swapsWithSole [.Subscript o i p2] e pos.line X.env = pure false := by rfl) (hw : swappedStores [.Subscript o i p2] e X.env = pure none := by rfl)
    (h2 : (assignEach [.Subscript o i p2] X.env).map (·.2) = [assign (.Subscript o i p2) X.env] := by rfl) : DS X W (.Assign [.Subscript o i p2] e pos) (sSetIx g f fo fi) :=
  PS.imp (ps_asg he (pg_sub ho hi hs ha) h1 hw h2) fun E σ H ⟨w, ρ, η, rel, p⟩ => by
    refine (rdE_thenS rel p).imp fun v H1 ⟨w1, d, η1, e1, rel1, rv, p1⟩ => ?_
    refine (rdE_thenS rel1 p1).imp fun u H2 ⟨w2, d2, η2, e2, rel2, rv2, p2⟩ => ?_
    refine (rdE_thenS rel2 p2).imp fun x H3 ⟨w3, d3, η3, e3, rel3, rv3, p3⟩ => ?_
    refine ⟨w3, η3, d2, d3, d, rel3.heap, rv2.ext e3, rv3, (rv.ext e2).ext e3, ?_⟩
    split at p3
    · rename_i η4 eg
      exact fun w' H' e' hr' => p3 σ w' H' e' ⟨rel3.env.ext e', hr'⟩
    · exact p3.elim
/-- a list's item; a dict's -/
def setD : GSet := fun o i v η => match o with
  | .obj k => (match η[k]? with
    | some (.lst xs) => (match i with
      | .int j => (match ixN xs.length j with
        | some n => some (η.set k (.lst (xs.set n v)))
        | none => none)
      | _ => none)
    | some (.dK kvs) => (match keyD i with
      | some q => if kvs.length < sizeLine then some (η.set k (.dK (putD kvs q v))) else none
      | none => none)
    | _ => none)
  | _ => none
theorem PSet.or {t t' : TSet} (h : PSet X t) (h' : PSet X t') : PSet X (fun o i v H Q => t o i v H Q ∨ t' o i v H Q) :=
  fun pins s σ H o i v ov iv u Q I r1 r2 r3 q => q.elim (h pins s σ H o i v ov iv u Q I r1 r2 r3) (h' pins s σ H o i v ov iv u Q I r1 r2 r3)
theorem setD_ok (hu : X.A.units + 64 < cLine) : PSet X (rdSet X.K setD) := by
  intro pins s σ H o i v ov iv u Q I r1 r2 r3 ⟨w, η, d1, d2, d3, hr, q1, q2, q3, p⟩
  have hu' : X.A.units + 1 < cLine := by omega
  refine (PSet.or set_list (set_dict hu')) pins s σ H o i v ov iv u Q I r1 r2 r3 ?_
  cases q1 with
  | @obj k a ha =>
    dsimp only [setD] at p
    cases eo : η[k]? with
    | none => rw [eo] at p; exact p.elim
    | some ob =>
      rw [eo] at p
      cases ob with
      | lst xs =>
        obtain ⟨ys, eH, r⟩ := hr.at_ _ _ _ ha eo
        cases q2 with
        | int j =>
          dsimp only at p
          cases en : ixN xs.length j with
          | none => rw [en] at p; exact p.elim
          | some n =>
            rw [en] at p
            refine .inl ⟨a, ys, j, n, rfl, rfl, eH, by rw [r.length]; exact en, ?_⟩
            exact p w _ (Ext.write ha hr) (hr.write ha ⟨_, upd_same, (r.set q3 n).ext (Ext.write ha hr)⟩)
        | _ => exact p.elim
      | dK kvs =>
        obtain ⟨ys, eH, r⟩ := hr.at_ _ _ _ ha eo
        dsimp only at p
        cases ek : keyD d2 with
        | none => rw [ek] at p; exact p.elim
        | some q =>
          rw [ek] at p
          dsimp only at p
          split at p
          case h_2 => exact p.elim
          rename_i hm
          split at hm
          case isFalse => cases hm
          rename_i hl
          cases hm
          obtain ⟨e1, _⟩ := keyD_ok q2 ek
          subst e1
          refine .inr ⟨a, _, rfl, DPut.k eH (by rw [repF_length r]; exact hl), ?_⟩
          exact p w _ (Ext.write ha hr) (hr.write ha ⟨_, upd_same, (repF_put r q3).ext (Ext.write ha hr)⟩)
      | _ => exact p.elim
  | _ => exact p.elim

/-! ### methods of built-in types -/
def tyM (T : String) (d : D) (η : Store) : Bool := match d with
  | .str _ => decide (T = "str")
  | .lst _ => decide (T = "list")
  | .scr _ => decide (T = "list")
  | .obj k => (match η[k]? with
    | some (.lst _) => decide (T = "list")
    | some (.dK _) => decide (T = "dict")
    | some (.dT _) => decide (T = "dict")
    | _ => false)
  | _ => false
theorem tyM_ok {T : String} {v : V} {d : D} (hr : HeapRel K w H η) (rv : RepV K w H v d) (h : tyM T d η = true) : tyV K T v H := by
  cases rv with
  | str x => exact (of_decide_eq_true h : T = "str")
  | lst s r => exact .inl ⟨(of_decide_eq_true h : T = "list"), _, s.sq⟩
  | scr s r => exact .inl ⟨(of_decide_eq_true h : T = "list"), _, s.sq⟩
  | @obj k a ha =>
    dsimp only [tyM] at h
    split at h
    · rename_i xs eo
      obtain ⟨ys, e, r⟩ := hr.at_ _ _ _ ha eo
      exact .inl ⟨(of_decide_eq_true h : T = "list"), _, SqL.of e⟩
    · rename_i kvs eo
      obtain ⟨ys, e, r⟩ := hr.at_ _ _ _ ha eo
      exact .inr (.inr (.inl ⟨(of_decide_eq_true h : T = "dict"), .inl ⟨_, e⟩⟩))
    · rename_i kvs eo
      obtain ⟨ys, e, r⟩ := hr.at_ _ _ _ ha eo
      exact .inr (.inr (.inl ⟨(of_decide_eq_true h : T = "dict"), .inr ⟨_, e⟩⟩))
    · cases h
  | _ => cases h
def eMt (T : String) (g : D → GL) (fo : FE) (fA : FA) : FE := fun ρ η => (fo ρ η).bind fun x η => if tyM T x η = true then (fA ρ η).bind fun xs η => liftO (g x xs η) else .no
def eMt0 (T : String) (g : D → GL) (fo : FE) : FE := fun ρ η => (fo ρ η).bind fun x η => if tyM T x η = true then liftO (g x [] η) else .no
variable {o : Expr} {fo : FE} {name : Str} {apos cpos : Pos} {T id : String} {g : D → GL}
theorem de_mt0 (pa : PlainAttrs T) (slot : Slot T name id) (hty : typeOf (.builtin id) = pure (.type "method_descriptor")) (hm : MtR X id (rdM X.K g)) (ho : DE X W o fo)
    (hbase : attributeBase o name X.env (eval o X.env) = eval o X.env := by rfl) (hline : (apos.endLine == cpos.line) = true := by rfl) : DE X W (.Call (.Attribute o name apos) [] [] cpos) (eMt0 T g fo) :=
  PE.imp (pe_bm0 pa slot hty hm ho hbase hline) fun σ H Q ⟨w, ρ, η, rel, p⟩ => by
    refine (rdE_then rel p).imp fun v H1 ⟨w1, d, η1, e, rel1, rv, p1⟩ => ?_
    split at p1
    · rename_i ht
      exact ⟨tyM_ok rel1.heap rv ht, w1, η1, d, [], rel1.heap, rv, .nil, p1.lift⟩
    · exact p1.elim
theorem de_mt (pa : PlainAttrs T) (slot : Slot T name id) (hty : typeOf (.builtin id) = pure (.type "method_descriptor")) (hm : MtR X id (rdM X.K g)) (ho : DE X W o fo) (ha : DA X W (e :: es) fA)
    (hbase : attributeBase o name X.env (eval o X.env) = eval o X.env := by rfl)
    (hfew : ((backTo cpos (starEach (e :: es) X.env)).all (fun x => !x.1) && (backToKw cpos (keywordEach [] X.env)).all (fun x => x.1.isSome)
      && decide ((e :: es).length + ([] : List Keyword).length + (if ([] : List Keyword).isEmpty then 0 else 1) < 30)) = true := by rfl)
    (hline : (apos.endLine == cpos.line) = true := by rfl) (hs : starEach (e :: es) X.env = (false, eval e X.env) :: starEach es X.env := by rfl) (hplain : (backTo cpos (starEach es X.env)).any (·.1) = false := by rfl) :
    DE X W (.Call (.Attribute o name apos) (e :: es) [] cpos) (eMt T g fo fA) :=
  PE.imp (pe_bm pa slot hty hm ho ha hbase hfew hline hs hplain) fun σ H Q ⟨w, ρ, η, rel, p⟩ => by
    refine (rdE_then rel p).imp fun v H1 ⟨w1, d, η1, e, rel1, rv, p1⟩ => ?_
    split at p1
    · rename_i ht
      refine ⟨tyM_ok rel1.heap rv ht, ?_⟩
      obtain ⟨w2, ρ2, η2, rel2, q⟩ := rdA_then rel1 p1
      exact ⟨w2, ρ2, η2, rel2, q.imp fun vs H2 ⟨w3, ds, η3, e3, rel3, rvs, p3⟩ => ⟨w3, η3, d, ds, rel3.heap, rv.ext e3, rvs, p3.lift⟩⟩
    · exact p1.elim
theorem mt_of {id : String} {r : V → List V → Hp → VK → Prop} {g : D → GL} (ho : MtR X id r)
    (m : ∀ {x xs H} {Q : VK} {w η d ds z η'}, HeapRel X.K w H η → RepV X.K w H x d → RepVs X.K w H xs ds → g d ds η = some (z, η') → (∀ v w' H', Ext w H w' H' → HeapRel X.K w' H' η' → RepV X.K w' H' v z → Q v H') → r x xs H Q) : MtR X id (rdM X.K g) :=
  fun pins s σ H x xs v us Q I r1 r2 ⟨w, η, d, ds, hr, q1, q2, p⟩ => by
    refine ho pins s σ H x xs v us Q I r1 r2 ?_
    cases e : g d ds η with
    | none => rw [e] at p; exact p.elim
    | some zη =>
      obtain ⟨z, η'⟩ := zη
      rw [e] at p
      exact m hr q1 q2 e p
/-- the list at a thing -/
def objL (d : D) (η : Store) : Option (Nat × List D) := match d with
  | .obj k => (match η[k]? with
    | some (.lst xs) => some (k, xs)
    | _ => none)
  | _ => none
theorem objL_ok {v : V} {d : D} {k : Nat} {ds : List D} (hr : HeapRel K w H η) (rv : RepV K w H v d) (h : objL d η = some (k, ds)) : ∃ a xs, v = .ref a ∧ w.io[k]? = some a ∧ H a = some (.lst xs) ∧ RepVs K w H xs ds := by
  cases rv with
  | @obj k a ha =>
    dsimp only [objL] at h
    split at h
    · rename_i ys eo
      cases h
      obtain ⟨xs, e, r⟩ := hr.at_ _ _ _ ha eo
      exact ⟨a, xs, rfl, ha, e, r⟩
    · cases h
  | _ => cases h
theorem wr_of {Q : VK} {z : D} {v : V} {a : Addr} {k : Nat} {xs : List V} {ds : List D} (p : ∀ v w' H', Ext w H w' H' → HeapRel K w' H' (η.set k (.lst ds)) → RepV K w' H' v z → Q v H') (hr : HeapRel K w H η) (ha : w.io[k]? = some a)
    (r : RepVs K w H xs ds) (rv : RepV K w H v z) : Q v (upd H a (.lst xs)) :=
  p v w _ (Ext.write ha hr) (hr.write ha ⟨_, upd_same, r.ext (Ext.write ha hr)⟩) (rv.ext (Ext.write ha hr))
def appD : D → GL := fun d ds η => match ds with
  | [y] => (match objL d η with
    | some (k, xs) => if xs.length < sizeLine then some (.non, η.set k (.lst (xs ++ [y]))) else none
    | none => none)
  | _ => none
theorem mtD_append : MtR X "list.append" (rdM X.K appD) := mt_of (id := "list.append") mt_append fun hr q r h p => by
  unfold appD at h
  split at h
  · split at h
    · rename_i k xs eo
      split at h
      · rename_i hl
        cases h
        obtain ⟨a, ys, rfl, ha, eH, ry⟩ := objL_ok hr q eo
        obtain ⟨x1, xs1, rfl, q1, q2⟩ := reps_cons r
        obtain rfl := reps_nil q2
        exact ⟨a, ys, x1, rfl, rfl, eH, by rw [ry.length]; exact hl, wr_of p hr ha (ry.append (.one q1)) .non⟩
      · cases h
    · cases h
  · cases h
def extD : D → GL := fun d ds η => match ds with
  | [y] => (match objL d η, lstOf y η with
    | some (k, xs), some ys => if xs.length + ys.length ≤ sizeLine then some (.non, η.set k (.lst (xs ++ ys))) else none
    | _, _ => none)
  | _ => none
theorem mtD_extend : MtR X "list.extend" (rdM X.K extD) := mt_of (id := "list.extend") mt_extend fun hr q r h p => by
  unfold extD at h
  split at h
  · split at h
    · rename_i k xs ys eo el
      split at h
      · rename_i hl
        cases h
        obtain ⟨a, zs, rfl, ha, eH, rz⟩ := objL_ok hr q eo
        obtain ⟨x1, xs1, rfl, q1, q2⟩ := reps_cons r
        obtain rfl := reps_nil q2
        obtain ⟨b, us, rfl, eB, ru⟩ := lstOf_ok hr q1 el
        exact ⟨a, b, zs, us, rfl, rfl, eH, eB, by rw [rz.length, ru.length]; exact hl, wr_of p hr ha (rz.append ru) .non⟩
      · cases h
    · cases h
  · cases h
theorem RepVs.dropLast {xs : List V} {ds : List D} (r : RepVs K w H xs ds) : RepVs K w H xs.dropLast ds.dropLast := by
  rw [List.dropLast_eq_take, List.dropLast_eq_take, r.length]; exact r.take _
theorem RepVs.eraseIdx : ∀ {xs : List V} {ds : List D} (i : Nat), RepVs K w H xs ds → RepVs K w H (xs.eraseIdx i) (ds.eraseIdx i)
  | _, _, _, .nil => .nil
  | _, _, 0, .cons _ t => t
  | _, _, i + 1, .cons q t => .cons q (RepVs.eraseIdx i t)
def popD : D → GL := fun d ds η => match objL d η with
  | some (k, xs) => (match ds with
    | [] => (match xs[xs.length - 1]? with
      | some y => some (y, η.set k (.lst xs.dropLast))
      | none => none)
    | [.int i] => if -(2 ^ 63) ≤ i ∧ i < 2 ^ 63 then (match seqIndex? i xs.length with
      | some n => (match xs[n]? with
        | some y => some (y, η.set k (.lst (xs.eraseIdx n)))
        | none => none)
      | none => none) else none
    | _ => none)
  | none => none
theorem mtD_pop : MtR X "list.pop" (rdM X.K popD) := mt_of (id := "list.pop") (MtR.or (id := "list.pop") mt_pop mt_popAt) fun hr q r h p => by
  unfold popD at h
  split at h
  · rename_i k xs eo
    obtain ⟨a, zs, rfl, ha, eH, rz⟩ := objL_ok hr q eo
    split at h
    · split at h
      · rename_i y ey
        cases h
        obtain rfl := reps_nil r
        obtain ⟨u, eu, ru⟩ := rz.get ey
        exact .inl ⟨a, zs, u, rfl, rfl, eH, by rw [rz.length]; exact eu, wr_of p hr ha rz.dropLast ru⟩
      · cases h
    · split at h
      · rename_i hb
        split at h
        · rename_i n en
          split at h
          · rename_i y ey
            cases h
            obtain ⟨x1, xs1, rfl, q1, q2⟩ := reps_cons r
            obtain rfl := reps_nil q2
            cases q1
            obtain ⟨u, eu, ru⟩ := rz.get ey
            exact .inr ⟨a, zs, _, n, u, rfl, rfl, eH, hb.1, hb.2, by rw [rz.length]; exact en, eu, wr_of p hr ha (rz.eraseIdx n) ru⟩
          · cases h
        · cases h
      · cases h
    · cases h
  · cases h
end
end Dn
/-! Dn part 11: the text's defs, by name. -/
namespace Dn
open PySem PySem.Spec PyProof.Rows L2
@[irreducible] def fuel : Nat := 2 ^ 1000000
theorem fuel_big {n : Nat} (h : n ≤ 1000000) : 2 ^ n ≤ fuel := by unfold fuel; exact Nat.pow_le_pow_right (by decide) h
theorem fuel_lt {m n : Nat} (h : m < 2 ^ n) (hn : n ≤ 1000000) : m < fuel := Nat.lt_of_lt_of_le h (fuel_big hn)
/-- the def x of the module: n parameters, what it does -/
structure FOk (P : Program) (w : World) (K : PySem.W.Frag) (mg : Str → Option Value) (base : Heap) (k : Nat) (x : Str) (n : Nat) (F : FF) : Prop where
  g : mg x = some (.ref (He.ga K x))
  kp : PySem.W.keepIn K (.ref (He.ga K x)) = true
  ok : ∃ (fd : FuncData) (ps : List Str), FnOk P w K mg base (L2N.CX P w) k (He.ga K x) fd ps (spD K n F) ∧ Binds K fd ps []
section
variable {P : Program} {w : World} {K : PySem.W.Frag} {mg : Str → Option Value} {base : Heap} {j k n : Nat} {x : Str} {F : FF}
theorem FOk.mono (h : FOk P w K mg base j x n F) (l : j ≤ k) : FOk P w K mg base k x n F :=
  ⟨h.g, h.kp, let ⟨fd, ps, a, b⟩ := h.ok; ⟨fd, ps, a.mono l, b⟩⟩
theorem FOk.trim (h : FOk P w K mg base k x n F) : FOk P w K mg base k x n (trimF F) :=
  ⟨h.g, h.kp, let ⟨fd, ps, a, b⟩ := h.ok; ⟨fd, ps, fn_trim a, b⟩⟩
/-- a def as the top left it -/
structure Fn1 (K : PySem.W.Frag) (mg : Str → Option Value) (x : Str) (st : Stmt) : Prop where
  g : mg x = some (.ref (He.ga K x))
  f : ∃ fd, FunD K x x (defArgs st) (defBody st) (defScope st) [] [] (He.ga K x) fd
theorem Fn1.ok {N ps : List Str} {b : FS} {st : Stmt} (h : Fn1 K mg x st) (S : FnScope N ps (defScope st)) (hn : ps.length = n)
    (hb : ∀ (cdv : Value) (A : Around) (outer : List PySem.Env) (s : Shared) (H : Hp) (E : XK) (f : Addr), Room k (A.deeper (envOfC x (defScope st) s.heap.objs.size f cdv)) →
      L2N.Takes (cxOf (L2N.CX P w) P w K mg base N x (defScope st) f cdv A outer s H E) (fun c d _ H => E c d H) →
      PassesOwn (model P w) (A.deeper (envOfC x (defScope st) s.heap.objs.size f cdv)) (envOfC x (defScope st) s.heap.objs.size f cdv) (cxOf (L2N.CX P w) P w K mg base N x (defScope st) f cdv A outer s H E).xe →
      DSs (cxOf (L2N.CX P w) P w K mg base N x (defScope st) f cdv A outer s H E) (fun c d _ H => E c d H) (defBody st) b)
    (bn : ∀ (kV doc pm : Value) (an : Option Addr) (cdv ct : Value) (us : List Value), us.length = ps.length → bindArgs (PySem.W.fnOf x x (defArgs st) (defBody st) (defScope st) .none kV doc pm an cdv ct) ⟨us, []⟩ = pure (ps.zip us)) :
    FOk P w K mg base (k + 1) x n (runF N.length b) := by
  obtain ⟨fd, F⟩ := h.f
  exact ⟨h.g, F.kp, fd, ps, fn_ok F S hn fun cdv A outer s H E hr => hb cdv A outer s H E _ hr (L2N.takes_of rfl rfl rfl rfl) (passes_of rfl), F.bindsN bn⟩
end
section
variable {X : Cx} {W : WX} {e : Expr} {es : List Expr} {pos p : Pos} {fA : FA}
theorem de_callF {x : Str} {n k : Nat} {F : FF} (c : FOk X.prog X.w X.K X.mg X.base k x n F) (tk : L2N.Takes X W) (hr : Room k X.A) (ha : DA X W (e :: es) fA) (hg : Gl X x := by rfl)
    (hdb : (x == ("__debug__" : Str)) = false := by decide) (he : starEach (e :: es) X.env = (false, eval e X.env) :: starEach es X.env := by rfl) (hpl : (backTo pos (starEach es X.env)).any (·.1) = false := by rfl) :
    DE X W (.Call (.Name x p) (e :: es) [] pos) (eCall n F fA) := by
  obtain ⟨fd, ps, a, b⟩ := c.ok
  exact de_call tk hr a c.g c.kp b ha hg hdb he hpl
theorem pe_callS0 {k : Nat} {f : Addr} {fd : FuncData} {ps : List Str} {sp : Sp} {CX : CXT} {E : L2.St → XK} {x : Str} (F : FnOk X.prog X.w X.K X.mg X.base CX k f fd ps sp) (hr : Room k X.A) (hg : Gl X x) (hm : X.mg x = some (.ref f)) (hk : PySem.W.keepIn X.K (.ref f) = true) (hb : Binds X.K fd ps []) (hx : ∀ σ, PassesAt CX X σ (E σ))
    (hdb : (x == ("__debug__" : Str)) = false := by decide) : PE X (.Call (.Name x p) [] [] pos) (fun σ H Q => sp [] H Q (E σ)) := by
  refine ⟨fun pins s σ H Q I h => ?_⟩
  refine wpAny_Call_Name_kw (ld_glob I hg hm ?_ hdb)
  exact PySem.W.callWith_K0 I.kIn hk (run_fnS F hr hb (hx σ) I .nil h)
theorem de_callF0 {x : Str} {k : Nat} {F : FF} (c : FOk X.prog X.w X.K X.mg X.base k x 0 F) (tk : L2N.Takes X W) (hr : Room k X.A) (hg : Gl X x := by rfl)
    (hdb : (x == ("__debug__" : Str)) = false := by decide) : DE X W (.Call (.Name x p) [] [] pos) (eCall 0 F aNil) := by
  obtain ⟨fd, ps, a, b⟩ := c.ok
  refine PE.imp (pe_callS0 a hr hg c.g c.kp b (fun σ => L2N.passAt tk σ) hdb) fun σ H Q ⟨w, ρ, η, rel, p⟩ => ?_
  exact ⟨w, η, [], rel.heap, .nil, rfl, p⟩
end
/-- a def's place at the top -/
def dfn (x : Str) (st : Stmt) : He.DefD := ⟨(x, none), x, x, defArgs st, defBody st, defScope st, [], []⟩
theorem fn1_of {K : PySem.W.Frag} {h : Heap} {mg : Str → Option Value} (X : K.In h) (G : h.Ns mainGlobals mg) {fa : List He.Fa} {fn : List He.DefD} (c : He.SaysD fa fn K) {x : Str} {st : Stmt} (i j : Nat) (hi : fa[i]? = some (.glo x)) (hj : fn[j]? = some (dfn x st)) : Fn1 K mg x st := by
  obtain ⟨fd, F⟩ := c.def_ j hj
  exact ⟨He.glo_ok X G (c.fact i hi), fd, F⟩
end Dn
/-! Dn part 12: more calls. -/
namespace Dn
open PySem PySem.Spec PyProof.Rows L2
section
variable {X : Cx} {W : WX} {K : PySem.W.Frag} {w w1 w' : Wd} {H H1 H' : Hp} {η η1 : Store}
def strD : GL := fun ds η => match ds with
  | [.str x] => some (.str x, η)
  | [.int i] => if i.natAbs.log2 < 1920 then some (.str (toString i), η) else none
  | _ => none
theorem callD_str : CallR X (.type "str") (rdL X.K strD) := call_of (CallR.or SkE.call_str_str call_str_int) fun hr r h p => by
  unfold strD at h
  split at h
  · cases h
    cases r with | cons r1 rr => ?_
    cases rr
    cases r1
    exact .inl ⟨_, rfl, val_of p hr (.str _)⟩
  · split at h
    · rename_i hl
      cases h
      cases r with | cons r1 rr => ?_
      cases rr
      cases r1
      exact .inr ⟨_, rfl, hl, val_of p hr (.str _)⟩
    · cases h
  · cases h
end
end Dn
/-! Dn part 13: the end; what a reading comes to, by wishes. -/
namespace Dn
open PySem PySem.Spec PyProof.Rows L2
/-! ### the end -/
theorem FnOk.no_exc {P : Program} {w : World} {K : PySem.W.Frag} {mg : Str → Option Value} {base : Heap} {k : Nat} {f : Addr} {fd : FuncData} {ps : List Str} {sp : Sp} (F : FnOk P w K mg base (L2N.CX P w) k f fd ps sp) :
    FnOk P w K mg base L2.CX0 k f fd ps (fun vs H Q _ => sp vs H Q L2.E0) :=
  ⟨fun vs H Q _ h => F.len vs H Q _ h, fun A outer s H args us vs Q E hr he hb hv h => codeAny_mono (F.run A outer s H args us vs Q L2.E0 hr he hb hv h) fun r s' q => by
    cases r with
    | ok u => cases u <;> exact q
    | error e => obtain ⟨_, _, _, _, _, _, _, _, _, _, _, _, z⟩ := q; exact z⟩
theorem law_spT {K : PySem.W.Frag} {n : Nat} {F : FF} (h : ∀ ns : List Int, ns.length ≤ n → ∃ η', F [.scr (ns.map D.int)] [] = .ok (.bl true) η') (H : Hp) (a : Addr) (ns : List Int) (hl : ns.length ≤ n) (hT : LamX.Tabs (lamT K) H) (hS : SqL K H a (ns.map V.int)) :
    spD K 1 F [.ref a] H (fun v _ => v = .bl true) L2.E0 := by
  obtain ⟨η', e⟩ := h ns hl
  refine ⟨⟨[], []⟩, [], [.scr (ns.map D.int)], ⟨rfl, List.nodup_nil, fun i b o hb => by simp at hb, (fun b hb => by cases hb), hT⟩, .cons (.scr (xs := ns.map V.int) ?_ ?_) .nil, rfl, ?_⟩
  · rcases hS with hS | hS
    · exact .inl ⟨hS, by simp, by simp⟩
    · exact .inr hS
  · exact ints_rep ns
  · rw [e]
    intro v w' H' _ _ r
    cases r; rfl

/-! ### wishes -/
def wpR {α : Type} (r : R α) (Q : α → Store → Prop) (E : Ex → Store → Prop) : Prop := match r with
  | .ok a η => Q a η
  | .exc x η => E x η
  | .no => False
structure Po where
  nx : Env → Store → Prop
  rt : D → Store → Prop
  bk : Env → Store → Prop
  ct : Env → Store → Prop
  ex : Ex → Env → Store → Prop
def wpS (r : RS) (P : Po) : Prop := match r with
  | .nx ρ η => P.nx ρ η
  | .ret d η => P.rt d η
  | .brk ρ η => P.bk ρ η
  | .cnt ρ η => P.ct ρ η
  | .exc x ρ η => P.ex x ρ η
  | .no => False
def wpO {α : Type} (o : Option α) (Q : α → Prop) : Prop := match o with
  | some a => Q a
  | none => False
@[simp] theorem wpO_some {α : Type} {a : α} {Q : α → Prop} : wpO (some a) Q ↔ Q a := Iff.rfl
@[simp] theorem wpO_none {α : Type} {Q : α → Prop} : wpO (none : Option α) Q ↔ False := Iff.rfl
section
variable {α β : Type} {r : R α} {k : α → Store → R β} {Q : α → Store → Prop} {Q2 : β → Store → Prop} {QD : D → Store → Prop} {QB : Bool → Store → Prop} {QL : List D → Store → Prop} {E : Ex → Store → Prop} {P : Po} {a : α} {η : Store} {ρ : Env} {x : Ex} {fa fb fc f : FE} {s t : FT} {fA : FA}
@[simp] theorem wpR_ok : wpR (.ok a η) Q E ↔ Q a η := Iff.rfl
@[simp] theorem wpR_exc : wpR (.exc x η : R α) Q E ↔ E x η := Iff.rfl
@[simp] theorem wpR_no : wpR (.no : R α) Q E ↔ False := Iff.rfl
theorem wpR_bind : wpR (r.bind k) Q2 E ↔ wpR r (fun a η => wpR (k a η) Q2 E) E := by cases r <;> exact Iff.rfl
theorem wpS_bindS {kS : α → Store → RS} : wpS (r.bindS ρ kS) P ↔ wpR r (fun a η => wpS (kS a η) P) (fun x η => P.ex x ρ η) := by cases r <;> exact Iff.rfl
theorem wpR_lift {o : Option (α × Store)} : wpR (liftO o) Q E ↔ wpO o fun p => Q p.1 p.2 := by cases o <;> exact Iff.rfl
theorem wpR_imp {Q' : α → Store → Prop} {E' : Ex → Store → Prop} (h : wpR r Q E) (m : ∀ a η, Q a η → Q' a η) (m2 : ∀ x η, E x η → E' x η) : wpR r Q' E' := by
  cases r with
  | ok a η => exact m _ _ h
  | exc x η => exact m2 _ _ h
  | no => exact h
theorem wpS_imp {P' : Po} {r : RS} (h : wpS r P) (m1 : ∀ ρ η, P.nx ρ η → P'.nx ρ η) (m2 : ∀ ρ η, P.rt ρ η → P'.rt ρ η) (m3 : ∀ ρ η, P.bk ρ η → P'.bk ρ η) (m4 : ∀ ρ η, P.ct ρ η → P'.ct ρ η) (m5 : ∀ x ρ η, P.ex x ρ η → P'.ex x ρ η) : wpS r P' := by
  cases r with
  | nx ρ η => exact m1 _ _ h
  | ret ρ η => exact m2 _ _ h
  | brk ρ η => exact m3 _ _ h
  | cnt ρ η => exact m4 _ _ h
  | exc x ρ η => exact m5 _ _ _ h
  | no => exact h
theorem wpR_congr {r : R α} {Q Q' : α → Store → Prop} (h : ∀ a η, Q a η ↔ Q' a η) : wpR r Q E ↔ wpR r Q' E := by
  have e : Q = Q' := funext fun a => funext fun η => propext (h a η)
  rw [e]
/-- an answer that is known -/
theorem wpR_of {r : R α} (h : r = .ok a η) (q : Q a η) : wpR r Q E := by rw [h]; exact q
theorem ok_of_wpR {r : R α} (h : wpR r Q (fun _ _ => False)) : ∃ a η, r = .ok a η ∧ Q a η := by
  cases r with
  | ok a η => exact ⟨a, η, rfl, h⟩
  | exc x η => exact h.elim
  | no => exact h.elim
/-! expressions -/
@[simp] theorem w_gv {i : Nat} : wpR (gv i ρ η) QD E ↔ wpO (ρ[i]?) fun o => wpO o fun d => QD d η := by
  unfold gv
  cases e : ρ[i]? with
  | none => exact Iff.rfl
  | some o => cases o <;> exact Iff.rfl
@[simp] theorem w_cst {d : D} : wpR (cst d ρ η) QD E ↔ QD d η := Iff.rfl
@[simp] theorem w_e1 {g : G1} : wpR (e1 g fa ρ η) QD E ↔ wpR (fa ρ η) (fun x η => wpO (g x η) fun p => QD p.1 p.2) E := by
  unfold e1; rw [wpR_bind]; simp only [wpR_lift]
@[simp] theorem w_e2 {g : G2} : wpR (e2 g fa fb ρ η) QD E ↔ wpR (fa ρ η) (fun x η => wpR (fb ρ η) (fun y η => wpO (g x y η) fun p => QD p.1 p.2) E) E := by
  unfold e2; rw [wpR_bind]; simp only [wpR_lift, wpR_bind]
@[simp] theorem w_eL {g : GL} : wpR (eL g fA ρ η) QD E ↔ wpR (fA ρ η) (fun xs η => wpO (g xs η) fun p => QD p.1 p.2) E := by
  unfold eL; rw [wpR_bind]; simp only [wpR_lift]
@[simp] theorem w_aNil : wpR (aNil ρ η) QL E ↔ QL [] η := Iff.rfl
@[simp] theorem w_aCons : wpR (aCons f fA ρ η) QL E ↔ wpR (f ρ η) (fun d η => wpR (fA ρ η) (fun ds η => QL (d :: ds) η) E) E := by
  unfold aCons; rw [wpR_bind]; simp only [wpR_bind, wpR_ok]
theorem wpR_ite {c : Prop} [Decidable c] {r r' : R α} : wpR (if c then r else r') Q E ↔ if c then wpR r Q E else wpR r' Q E := by split <;> exact Iff.rfl
@[simp] theorem w_mkT : wpR (mkT fA ρ η) QD E ↔ wpR (fA ρ η) (fun ds η => ds.length ≤ sizeLine ∧ QD (.tup ds) η) E := by
  unfold mkT; rw [wpR_bind]
  have e : ∀ (ds : List D) (η : Store), wpR (if ds.length ≤ sizeLine then R.ok (D.tup ds) η else R.no) QD E ↔ ds.length ≤ sizeLine ∧ QD (.tup ds) η := fun ds η => by
    by_cases h : ds.length ≤ sizeLine
    · rw [if_pos h]; simp [h]
    · rw [if_neg h]; simp [h]
  exact wpR_congr e
@[simp] theorem w_mkL : wpR (mkL fA ρ η) QD E ↔ wpR (fA ρ η) (fun ds η => ds.length ≤ sizeLine ∧ QD (.lst ds) η) E := by
  unfold mkL; rw [wpR_bind]
  have e : ∀ (ds : List D) (η : Store), wpR (if ds.length ≤ sizeLine then R.ok (D.lst ds) η else R.no) QD E ↔ ds.length ≤ sizeLine ∧ QD (.lst ds) η := fun ds η => by
    by_cases h : ds.length ≤ sizeLine
    · rw [if_pos h]; simp [h]
    · rw [if_neg h]; simp [h]
  exact wpR_congr e
@[simp] theorem w_mkO : wpR (mkO fA ρ η) QD E ↔ wpR (fA ρ η) (fun ds η => ds.length ≤ sizeLine ∧ QD (.obj η.length) (η ++ [.lst ds])) E := by
  unfold mkO; rw [wpR_bind]
  have e : ∀ (ds : List D) (η : Store), wpR (if ds.length ≤ sizeLine then R.ok (D.obj η.length) (η ++ [.lst ds]) else R.no) QD E ↔ ds.length ≤ sizeLine ∧ QD (.obj η.length) (η ++ [.lst ds]) := fun ds η => by
    by_cases h : ds.length ≤ sizeLine
    · rw [if_pos h]; simp [h]
    · rw [if_neg h]; simp [h]
  exact wpR_congr e
@[simp] theorem w_oNone {QO : Option Int → Store → Prop} : wpR (oNone ρ η) QO E ↔ QO none η := Iff.rfl
def isI (d : D) : Option Int := match d with
  | .int i => some i
  | _ => none
@[simp] theorem isI_int {i : Int} : isI (.int i) = some i := rfl
@[simp] theorem w_oSome {QO : Option Int → Store → Prop} : wpR (oSome f ρ η) QO E ↔ wpR (f ρ η) (fun d η => wpO (isI d) fun i => QO (some i) η) E := by
  unfold oSome; rw [wpR_bind]
  have e : ∀ (d : D) (η : Store), wpR (match d with | .int i => R.ok (some i) η | _ => R.no) QO E ↔ wpO (isI d) fun i => QO (some i) η := fun d η => by
    cases d <;> exact Iff.rfl
  exact wpR_congr e
@[simp] theorem w_eSl {g : GS} {fl fh : FO} : wpR (eSl g fa fl fh ρ η) QD E ↔ wpR (fa ρ η) (fun x η => wpR (fl ρ η) (fun l η => wpR (fh ρ η) (fun u η => wpO (g x l u η) fun p => QD p.1 p.2) E) E) E := by
  unfold eSl; rw [wpR_bind]; simp only [wpR_lift, wpR_bind]
@[simp] theorem w_eCall {n : Nat} {F : FF} : wpR (eCall n F fA ρ η) QD E ↔ wpR (fA ρ η) (fun ds η => ds.length = n ∧ wpR (F ds η) QD E) E := by
  unfold eCall; rw [wpR_bind]
  have e : ∀ (ds : List D) (η : Store), wpR (if ds.length = n then F ds η else .no) QD E ↔ ds.length = n ∧ wpR (F ds η) QD E := fun ds η => by
    by_cases h : ds.length = n
    · rw [if_pos h]; simp [h]
    · rw [if_neg h]; simp [h]
  exact wpR_congr e
@[simp] theorem w_eMt {T : String} {g : D → GL} : wpR (eMt T g fa fA ρ η) QD E ↔ wpR (fa ρ η) (fun x η => tyM T x η = true ∧ wpR (fA ρ η) (fun xs η => wpO (g x xs η) fun p => QD p.1 p.2) E) E := by
  unfold eMt; rw [wpR_bind]
  have e : ∀ (x : D) (η : Store), wpR (if tyM T x η = true then (fA ρ η).bind fun xs η => liftO (g x xs η) else .no) QD E ↔ tyM T x η = true ∧ wpR (fA ρ η) (fun xs η => wpO (g x xs η) fun p => QD p.1 p.2) E := fun x η => by
    by_cases h : tyM T x η = true
    · rw [if_pos h, wpR_bind]; simp [h, wpR_lift]
    · rw [if_neg h]; simp [h]
  exact wpR_congr e
@[simp] theorem w_eMt0 {T : String} {g : D → GL} : wpR (eMt0 T g fa ρ η) QD E ↔ wpR (fa ρ η) (fun x η => tyM T x η = true ∧ wpO (g x [] η) fun p => QD p.1 p.2) E := by
  unfold eMt0; rw [wpR_bind]
  have e : ∀ (x : D) (η : Store), wpR (if tyM T x η = true then liftO (g x [] η) else .no) QD E ↔ tyM T x η = true ∧ wpO (g x [] η) fun p => QD p.1 p.2 := fun x η => by
    by_cases h : tyM T x η = true
    · rw [if_pos h]; simp [h, wpR_lift]
    · rw [if_neg h]; simp [h]
  exact wpR_congr e
@[simp] theorem w_chn {g g' : G2} : wpR (chn g g' fa fb fc ρ η) QD E ↔ wpR (fa ρ η) (fun x η => wpR (fb ρ η) (fun y η => wpO (g x y η) fun p => match p.1 with
    | .bl true => wpR (fc ρ p.2) (fun u η => wpO (g' y u η) fun p => QD p.1 p.2) E
    | .bl false => QD (.bl false) p.2
    | _ => False) E) E := by
  unfold chn; rw [wpR_bind]
  have e : ∀ (x : D) (η : Store), wpR ((fb ρ η).bind fun y η => (liftO (g x y η)).bind fun z η => match z with
      | .bl true => (fc ρ η).bind fun u η => liftO (g' y u η)
      | .bl false => .ok (.bl false) η
      | _ => .no) QD E ↔ wpR (fb ρ η) (fun y η => wpO (g x y η) fun p => match p.1 with
        | .bl true => wpR (fc ρ p.2) (fun u η => wpO (g' y u η) fun p => QD p.1 p.2) E
        | .bl false => QD (.bl false) p.2
        | _ => False) E := fun x η => by
    rw [wpR_bind]
    have e2 : ∀ (y : D) (η : Store), wpR ((liftO (g x y η)).bind fun z η => match z with
      | .bl true => (fc ρ η).bind fun u η => liftO (g' y u η)
      | .bl false => .ok (.bl false) η
      | _ => .no) QD E ↔ wpO (g x y η) fun p => match p.1 with
        | .bl true => wpR (fc ρ p.2) (fun u η => wpO (g' y u η) fun p => QD p.1 p.2) E
        | .bl false => QD (.bl false) p.2
        | _ => False := fun y η => by
      rw [wpR_bind]
      cases h : g x y η with
      | none => exact Iff.rfl
      | some p =>
        obtain ⟨z, η2⟩ := p
        cases z with
        | bl b =>
          cases b
          · exact Iff.rfl
          · show wpR ((fc ρ η2).bind fun u η => liftO (g' y u η)) QD E ↔ _
            rw [wpR_bind]; simp only [wpR_lift]; exact Iff.rfl
        | _ => exact Iff.rfl
    simp only [e2]
  exact wpR_congr e
/-! tests -/
@[simp] theorem w_tru : wpR (tru f ρ η) QB E ↔ wpR (f ρ η) (fun d η => wpO (truD d η) fun b => QB b η) E := by
  unfold tru; rw [wpR_bind]
  have e : ∀ (d : D) (η : Store), wpR (match truD d η with | some b => R.ok b η | none => R.no) QB E ↔ wpO (truD d η) fun b => QB b η := fun d η => by
    cases truD d η <;> exact Iff.rfl
  exact wpR_congr e
def isB (d : D) : Option Bool := match d with
  | .bl i => some i
  | _ => none
@[simp] theorem isB_bl {i : Bool} : isB (.bl i) = some i := rfl
@[simp] theorem w_tst : wpR (tst f ρ η) QB E ↔ wpR (f ρ η) (fun d η => wpO (isB d) fun b => QB b η) E := by
  unfold tst; rw [wpR_bind]
  have e : ∀ (d : D) (η : Store), wpR (match d with | .bl b => R.ok b η | _ => R.no) QB E ↔ wpO (isB d) fun b => QB b η := fun d η => by
    cases d <;> exact Iff.rfl
  exact wpR_congr e
@[simp] theorem w_andT : wpR (andT s t ρ η) QB E ↔ wpR (s ρ η) (fun b η => if b = true then wpR (t ρ η) QB E else QB false η) E := by
  unfold andT; rw [wpR_bind]; simp only [wpR_ite, wpR_ok]
@[simp] theorem w_orT : wpR (orT s t ρ η) QB E ↔ wpR (s ρ η) (fun b η => if b = true then QB true η else wpR (t ρ η) QB E) E := by
  unfold orT; rw [wpR_bind]; simp only [wpR_ite, wpR_ok]
@[simp] theorem w_notT : wpR (notT s ρ η) QB E ↔ wpR (s ρ η) (fun b η => QB (!b) η) E := by
  unfold notT; rw [wpR_bind]; simp only [wpR_ok]
@[simp] theorem w_yes : wpR (yes ρ η) QB E ↔ QB true η := Iff.rfl
@[simp] theorem w_andE : wpR (andE fa fb ρ η) QD E ↔ wpR (fa ρ η) (fun d η => wpO (truD d η) fun b => if b = true then wpR (fb ρ η) QD E else QD d η) E := by
  unfold andE; rw [wpR_bind]
  have e : ∀ (d : D) (η : Store), wpR (match truD d η with | some true => fb ρ η | some false => R.ok d η | none => R.no) QD E ↔ wpO (truD d η) fun b => if b = true then wpR (fb ρ η) QD E else QD d η := fun d η => by
    cases h : truD d η with
    | none => exact Iff.rfl
    | some b => cases b <;> simp
  exact wpR_congr e
@[simp] theorem w_orE : wpR (orE fa fb ρ η) QD E ↔ wpR (fa ρ η) (fun d η => wpO (truD d η) fun b => if b = true then QD d η else wpR (fb ρ η) QD E) E := by
  unfold orE; rw [wpR_bind]
  have e : ∀ (d : D) (η : Store), wpR (match truD d η with | some true => R.ok d η | some false => fb ρ η | none => R.no) QD E ↔ wpO (truD d η) fun b => if b = true then QD d η else wpR (fb ρ η) QD E := fun d η => by
    cases h : truD d η with
    | none => exact Iff.rfl
    | some b => cases b <;> simp
  exact wpR_congr e
@[simp] theorem w_notE : wpR (notE fa ρ η) QD E ↔ wpR (fa ρ η) (fun d η => wpO (truD d η) fun b => QD (.bl (!b)) η) E := by
  unfold notE; rw [wpR_bind]
  have e : ∀ (d : D) (η : Store), wpR (match truD d η with | some b => R.ok (D.bl (!b)) η | none => R.no) QD E ↔ wpO (truD d η) fun b => QD (.bl (!b)) η := fun d η => by
    cases h : truD d η <;> exact Iff.rfl
  exact wpR_congr e
@[simp] theorem w_ifE : wpR (ifE s fa fb ρ η) QD E ↔ wpR (s ρ η) (fun b η => if b = true then wpR (fa ρ η) QD E else wpR (fb ρ η) QD E) E := by
  unfold ifE; rw [wpR_bind]; simp only [wpR_ite]
/-! statements -/
variable {fs gs : FS}
@[simp] theorem w_nil : wpS (sNil ρ η) P ↔ P.nx ρ η := Iff.rfl
@[simp] theorem w_brk : wpS (sBrk ρ η) P ↔ P.bk ρ η := Iff.rfl
@[simp] theorem w_cnt : wpS (sCnt ρ η) P ↔ P.ct ρ η := Iff.rfl
@[simp] theorem w_retN : wpS (sRetN ρ η) P ↔ P.rt .non η := Iff.rfl
@[simp] theorem w_nxS : wpS (.nx ρ η) P ↔ P.nx ρ η := Iff.rfl
@[simp] theorem w_retS {d : D} : wpS (.ret d η) P ↔ P.rt d η := Iff.rfl
@[simp] theorem w_brkS : wpS (.brk ρ η) P ↔ P.bk ρ η := Iff.rfl
@[simp] theorem w_cntS : wpS (.cnt ρ η) P ↔ P.ct ρ η := Iff.rfl
@[simp] theorem w_excS : wpS (.exc x ρ η) P ↔ P.ex x ρ η := Iff.rfl
@[simp] theorem w_noS : wpS .no P ↔ False := Iff.rfl
@[simp] theorem w_seq : wpS (sSeq fs gs ρ η) P ↔ wpS (fs ρ η) ⟨fun ρ η => wpS (gs ρ η) P, P.rt, P.bk, P.ct, P.ex⟩ := by
  unfold sSeq
  cases h : fs ρ η <;> exact Iff.rfl
@[simp] theorem w_exp : wpS (sExp f ρ η) P ↔ wpR (f ρ η) (fun _ η => P.nx ρ η) (fun x η => P.ex x ρ η) := by
  unfold sExp; rw [wpS_bindS]; exact Iff.rfl
@[simp] theorem w_ret : wpS (sRet f ρ η) P ↔ wpR (f ρ η) (fun d η => P.rt d η) (fun x η => P.ex x ρ η) := by
  unfold sRet; rw [wpS_bindS]; exact Iff.rfl
theorem wpS_ite {c : Prop} [Decidable c] {r r' : RS} : wpS (if c then r else r') P ↔ if c then wpS r P else wpS r' P := by split <;> exact Iff.rfl
@[simp] theorem w_sIf : wpS (sIf s fs gs ρ η) P ↔ wpR (s ρ η) (fun b η => if b = true then wpS (fs ρ η) P else wpS (gs ρ η) P) (fun x η => P.ex x ρ η) := by
  unfold sIf; rw [wpS_bindS]; simp only [wpS_ite]
@[simp] theorem w_asg {b : TGt} : wpS (sAsg f b ρ η) P ↔ wpR (f ρ η) (fun d η => wpO (b d ρ) fun ρ => P.nx ρ η) (fun x η => P.ex x ρ η) := by
  unfold sAsg; rw [wpS_bindS]
  have e : ∀ (d : D) (η : Store), wpS (match b d ρ with | some ρ => RS.nx ρ η | none => .no) P ↔ wpO (b d ρ) fun ρ => P.nx ρ η := fun d η => by
    cases b d ρ <;> exact Iff.rfl
  exact wpR_congr e
@[simp] theorem w_par {i j : Nat} : wpS (sPar i j fa fb ρ η) P ↔ wpR (fa ρ η) (fun x η => wpR (fb ρ η) (fun y η => P.nx ((ρ.set i (some x)).set j (some y)) η) (fun x η => P.ex x ρ η)) (fun x η => P.ex x ρ η) := by
  unfold sPar; rw [wpS_bindS]; simp only [wpS_bindS, w_nxS]
@[simp] theorem w_setIx {g : GSet} {fo fi : FE} : wpS (sSetIx g f fo fi ρ η) P ↔ wpR (f ρ η) (fun v η => wpR (fo ρ η) (fun o η => wpR (fi ρ η) (fun i η => wpO (g o i v η) fun η => P.nx ρ η) (fun x η => P.ex x ρ η)) (fun x η => P.ex x ρ η)) (fun x η => P.ex x ρ η) := by
  unfold sSetIx; rw [wpS_bindS]
  have e : ∀ (v o i : D) (η : Store), wpS (match g o i v η with | some η => RS.nx ρ η | none => .no) P ↔ wpO (g o i v η) fun η => P.nx ρ η := fun v o i η => by
    cases g o i v η <;> exact Iff.rfl
  refine wpR_congr fun a η => ?_
  rw [wpS_bindS]
  refine wpR_congr fun a2 η => ?_
  rw [wpS_bindS]
  exact wpR_congr fun a3 η => e a a2 a3 η
@[simp] theorem b_bN {i : Nat} {d : D} : bN i d ρ = some (ρ.set i (some d)) := rfl
@[simp] theorem b_bTs_nil : bTs [] [] ρ = some ρ := rfl
@[simp] theorem b_bTs_cons {b : TGt} {bs : List TGt} {d : D} {ds : List D} : bTs (b :: bs) (d :: ds) ρ = (b d ρ).bind (bTs bs ds) := by
  show (match b d ρ with | some ρ => bTs bs ds ρ | none => none) = _
  cases b d ρ <;> rfl
@[simp] theorem b_bT_tup {bs : List TGt} {ds : List D} : bT bs (.tup ds) ρ = bTs bs ds ρ := rfl
@[simp] theorem b_bT_lst {bs : List TGt} {ds : List D} : bT bs (.lst ds) ρ = bTs bs ds ρ := rfl
/-- a def -/
theorem w_runF {n : Nat} {b : FS} {ds : List D} : wpR (runF n b ds η) QD E ↔ wpS (b (ds.map some ++ List.replicate (n - ds.length) none) η) ⟨fun _ η => QD .non η, QD, fun _ _ => False, fun _ _ => False, fun x _ η => E x η⟩ := by
  unfold runF
  cases b (ds.map some ++ List.replicate (n - ds.length) none) η <;> exact Iff.rfl
/-! loops -/
variable {b : TGt} {body : FS}
theorem w_forL (I : Nat → Env → Store → Prop) : ∀ (xs : List D) (i : Nat) {ρ : Env} {η : Store}, I i ρ η →
    (∀ j x, xs[j]? = some x → ∀ ρ η, I (i + j) ρ η → wpO (b x ρ) fun ρ => wpS (body ρ η) ⟨I (i + j + 1), P.rt, P.nx, I (i + j + 1), P.ex⟩) →
    (∀ ρ η, I (i + xs.length) ρ η → P.nx ρ η) → wpS (forL b body xs ρ η) P
  | [], i, ρ, η, h0, _, h2 => h2 ρ η h0
  | x :: xs, i, ρ, η, h0, h1, h2 => by
    have h := h1 0 x rfl ρ η h0
    unfold forL
    cases eb : b x ρ with
    | none => rw [eb] at h; exact h.elim
    | some ρ1 =>
      rw [eb] at h
      replace h : wpS (body ρ1 η) _ := h
      have st : ∀ j y, xs[j]? = some y → ∀ ρ η, I (i + 1 + j) ρ η → wpO (b y ρ) fun ρ => wpS (body ρ η) ⟨I (i + 1 + j + 1), P.rt, P.nx, I (i + 1 + j + 1), P.ex⟩ := fun j y ey ρ η q => by
        have e : i + (j + 1) = i + 1 + j := by omega
        have := h1 (j + 1) y (by simpa using ey) ρ η (by rw [e]; exact q)
        rw [e] at this
        exact this
      have el : i + (x :: xs).length = i + 1 + xs.length := by simp; omega
      have go : ∀ ρ2 η2, I (i + 0 + 1) ρ2 η2 → wpS (forL b body xs ρ2 η2) P := fun ρ2 η2 q =>
        w_forL I xs (i + 1) q st (fun ρ η q => h2 ρ η (by rw [el]; exact q))
      dsimp only
      cases er : body ρ1 η with
      | nx ρ2 η2 => rw [er] at h; exact go _ _ h
      | cnt ρ2 η2 => rw [er] at h; exact go _ _ h
      | brk ρ2 η2 => rw [er] at h; exact h
      | ret d η2 => rw [er] at h; exact h
      | exc x ρ2 η2 => rw [er] at h; exact h
      | no => rw [er] at h; exact h
theorem w_for {N : Nat} {fi : FI} : wpS (sFor N fi b body ρ η) P ↔ wpR (fi ρ η) (fun src η => match src with
    | .val xs => wpS (forL b body xs ρ η) P
    | .dyn f => wpS (forO b body f N 0 ρ η) P) (fun x η => P.ex x ρ η) := by
  unfold sFor; rw [wpS_bindS]
  have e : ∀ (src : Src) (η : Store), wpS (match src with | .val xs => forL b body xs ρ η | .dyn f => forO b body f N 0 ρ η) P ↔ (match src with
    | .val xs => wpS (forL b body xs ρ η) P
    | .dyn f => wpS (forO b body f N 0 ρ η) P) := fun src η => by cases src <;> exact Iff.rfl
  exact wpR_congr e
theorem w_whl (I : Nat → Env → Store → Prop) (h : ∀ m ρ η, I m ρ η → wpR (s ρ η) (fun b η => if b = true then ∃ m', m = m' + 1 ∧ wpS (body ρ η) ⟨I m', P.rt, P.nx, I m', P.ex⟩ else P.nx ρ η) (fun x η => P.ex x ρ η)) :
    ∀ (m N : Nat) {ρ : Env} {η : Store}, I m ρ η → m < N → wpS (whl s body N ρ η) P
  | _, 0, ρ, η, _, hN => by omega
  | m, N + 1, ρ, η, h0, hN => by
    unfold whl
    rw [wpS_bindS]
    refine wpR_imp (h m ρ η h0) (fun bb η2 q => ?_) (fun _ _ q => q)
    split
    · rename_i hb
      rw [if_pos hb] at q
      obtain ⟨m', em, q⟩ := q
      cases er : body ρ η2 with
      | nx ρ2 η2 => rw [er] at q; exact w_whl I h m' N q (by omega)
      | cnt ρ2 η2 => rw [er] at q; exact w_whl I h m' N q (by omega)
      | brk ρ2 η2 => rw [er] at q; exact q
      | ret d η2 => rw [er] at q; exact q
      | exc x ρ2 η2 => rw [er] at q; exact q
      | no => rw [er] at q; exact q
    · rename_i hb
      rw [if_neg hb] at q
      exact q
/-! comprehensions -/
theorem w_lc {N : Nat} {vs : List Nat} {fi : FI} {te : FE} : wpR (lc N vs fi b s te ρ η) QD E ↔ wpR (fi ρ η) (fun src η => wpR (nx (cmpS N src b s te (wipeD ρ vs) η)) (fun ys η => ys.length ≤ sizeLine ∧ QD (.lst ys) η) E) E := by
  unfold lc; rw [wpR_bind]
  have e : ∀ (ys : List D) (η : Store), wpR (if ys.length ≤ sizeLine then R.ok (D.lst ys) η else .no) QD E ↔ ys.length ≤ sizeLine ∧ QD (.lst ys) η := fun ds η => by
    by_cases h : ds.length ≤ sizeLine
    · rw [if_pos h]; simp [h]
    · rw [if_neg h]; simp [h]
  refine wpR_congr fun a η => ?_
  rw [wpR_bind]; exact wpR_congr e
theorem w_lcO {N : Nat} {vs : List Nat} {fi : FI} {te : FE} : wpR (lcO N vs fi b s te ρ η) QD E ↔ wpR (fi ρ η) (fun src η => wpR (nx (cmpS N src b s te (wipeD ρ vs) η)) (fun ys η => ys.length ≤ sizeLine ∧ QD (.obj η.length) (η ++ [.lst ys])) E) E := by
  unfold lcO; rw [wpR_bind]
  have e : ∀ (ys : List D) (η : Store), wpR (if ys.length ≤ sizeLine then R.ok (D.obj η.length) (η ++ [.lst ys]) else .no) QD E ↔ ys.length ≤ sizeLine ∧ QD (.obj η.length) (η ++ [.lst ys]) := fun ds η => by
    by_cases h : ds.length ≤ sizeLine
    · rw [if_pos h]; simp [h]
    · rw [if_neg h]; simp [h]
  refine wpR_congr fun a η => ?_
  rw [wpR_bind]; exact wpR_congr e
theorem w_nx {r : R α} : wpR (nx r) Q E ↔ wpR r Q (fun _ _ => False) := by cases r <;> exact Iff.rfl
/-- a comprehension, by an invariant: the turn, what is made, the store -/
theorem w_cmp {te : FE} {E : Ex → Store → Prop} (I : Nat → List D → Store → Prop) : ∀ (xs : List D) (i : Nat) (acc : List D) {η : Store} {QL : List D → Store → Prop}, I i acc η →
    (∀ j x, xs[j]? = some x → ∀ acc η, I (i + j) acc η → wpO (b x ρ) fun ρ => wpR (s ρ η) (fun k η => if k = true then wpR (te ρ η) (fun y η => I (i + j + 1) (acc ++ [y]) η) E else I (i + j + 1) acc η) E) →
    (∀ ys η, I (i + xs.length) (acc ++ ys) η → QL ys η) → wpR (cmp b s te ρ xs η) QL E
  | [], i, acc, η, _, h0, _, h2 => h2 [] η (by simpa using h0)
  | x :: xs, i, acc, η, _, h0, h1, h2 => by
    have h := h1 0 x rfl acc η h0
    unfold cmp
    cases eb : b x ρ with
    | none => rw [eb] at h; exact h.elim
    | some ρ1 =>
      rw [eb] at h
      replace h : wpR (s ρ1 η) _ _ := h
      dsimp only
      rw [wpR_bind]
      have st : ∀ j y, xs[j]? = some y → ∀ acc η, I (i + 1 + j) acc η → wpO (b y ρ) fun ρ => wpR (s ρ η) (fun k η => if k = true then wpR (te ρ η) (fun y η => I (i + 1 + j + 1) (acc ++ [y]) η) E else I (i + 1 + j + 1) acc η) E := fun j y ey acc η q => by
        have e : i + (j + 1) = i + 1 + j := by omega
        have := h1 (j + 1) y (by simpa using ey) acc η (by rw [e]; exact q)
        rw [e] at this
        exact this
      have e : i + (x :: xs).length = i + 1 + xs.length := by simp; omega
      refine wpR_imp h (fun k η2 q => ?_) (fun _ _ q => q)
      rw [wpR_ite]
      split
      · rename_i hk
        rw [if_pos hk] at q
        rw [wpR_bind]
        refine wpR_imp q (fun y η3 q => ?_) (fun _ _ q => q)
        rw [wpR_bind]
        refine w_cmp I xs (i + 1) (acc ++ [y]) q st (fun ys η q => ?_)
        refine h2 (y :: ys) η ?_
        rw [e]
        simpa using q
      · rename_i hk
        rw [if_neg hk] at q
        refine w_cmp I xs (i + 1) acc q st (fun ys η q => h2 ys η ?_)
        rw [e]; exact q
/-- .. that changes nothing: an item each -/
theorem cmp_map {te : FE} (g : D → D) : ∀ (xs : List D), (∀ x ∈ xs, ∃ ρ1, b x ρ = some ρ1 ∧ s ρ1 η = .ok true η ∧ te ρ1 η = .ok (g x) η) → cmp b s te ρ xs η = .ok (xs.map g) η
  | [], _ => rfl
  | x :: xs, h => by
    obtain ⟨ρ1, e1, e2, e3⟩ := h x List.mem_cons_self
    have ih := cmp_map g xs fun y hy => h y (List.mem_cons_of_mem _ hy)
    unfold cmp
    rw [e1]; dsimp only
    rw [e2, R.bind_ok, if_pos rfl, e3, R.bind_ok, ih, R.bind_ok]; rfl
/-- .. with a test -/
theorem cmp_fmap {te : FE} (p : D → Bool) (g : D → D) : ∀ (xs : List D), (∀ x ∈ xs, ∃ ρ1, b x ρ = some ρ1 ∧ s ρ1 η = .ok (p x) η ∧ (p x = true → te ρ1 η = .ok (g x) η)) → cmp b s te ρ xs η = .ok ((xs.filter p).map g) η
  | [], _ => rfl
  | x :: xs, h => by
    obtain ⟨ρ1, e1, e2, e3⟩ := h x List.mem_cons_self
    have ih := cmp_fmap p g xs fun y hy => h y (List.mem_cons_of_mem _ hy)
    unfold cmp
    rw [e1]; dsimp only
    rw [e2, R.bind_ok]
    cases hp : p x with
    | true => rw [if_pos rfl, e3 hp, R.bind_ok, ih, R.bind_ok, List.filter_cons_of_pos hp]; rfl
    | false => rw [if_neg (by simp), ih, List.filter_cons_of_neg (by simp [hp])]
end
end Dn
/-! Dn part 14: == over plain data; the operations at hand. -/
namespace Dn
open PySem PySem.Spec PyProof.Rows L2
mutual
/-- plain data of a depth -/
def D.pl : Nat → D → Bool
  | _, .non => true
  | _, .bl _ => true
  | _, .int _ => true
  | _, .str x => PyData.canLay0 (.str x)
  | n + 1, .tup xs => D.pls n xs
  | n + 1, .lst xs => D.pls n xs
  | _, _ => false
def D.pls : Nat → List D → Bool
  | _, [] => true
  | n, x :: xs => D.pl n x && D.pls n xs
end
mutual
/-- == of plain data -/
def D.eq : D → D → Bool
  | .non, .non => true
  | .bl a, .bl b => a == b
  | .bl a, .int j => (if a then 1 else 0) == j
  | .int i, .bl b => i == (if b then 1 else 0)
  | .int i, .int j => i == j
  | .str x, .str y => x == y
  | .tup xs, .tup ys => D.eqs xs ys
  | .lst xs, .lst ys => D.eqs xs ys
  | _, _ => false
def D.eqs : List D → List D → Bool
  | [], [] => true
  | x :: xs, y :: ys => D.eq x y && D.eqs xs ys
  | _, _ => false
end
mutual
theorem pl_pd0 : ∀ (n : Nat) (d : D), D.pl n d = true → ∃ q, pd0 d = some q ∧ q.canLay0 = true ∧ q.depth ≤ n
  | _, .non, _ => ⟨_, rfl, rfl, Nat.zero_le _⟩
  | _, .bl _, _ => ⟨_, rfl, rfl, Nat.zero_le _⟩
  | _, .int _, _ => ⟨_, rfl, rfl, Nat.zero_le _⟩
  | _, .str x, h => ⟨_, rfl, by simpa [D.pl] using h, Nat.zero_le _⟩
  | n + 1, .tup xs, h => by
    obtain ⟨qs, e, c, d⟩ := pls_pd0 n xs h
    exact ⟨.tuple qs, by show (pds0 xs).map _ = _; rw [e]; rfl, c, Nat.succ_le_succ d⟩
  | n + 1, .lst xs, h => by
    obtain ⟨qs, e, c, d⟩ := pls_pd0 n xs h
    exact ⟨.list qs, by show (pds0 xs).map _ = _; rw [e]; rfl, c, Nat.succ_le_succ d⟩
  | 0, .tup xs, h => by simp [D.pl] at h
  | 0, .lst xs, h => by simp [D.pl] at h
  | _, .scr xs, h => by simp [D.pl] at h
  | _, .obj xs, h => by simp [D.pl] at h
  | _, .gl xs, h => by simp [D.pl] at h
  | _, .ty xs, h => by simp [D.pl] at h
  | _, .adr xs, h => by simp [D.pl] at h
theorem pls_pd0 : ∀ (n : Nat) (ds : List D), D.pls n ds = true → ∃ qs, pds0 ds = some qs ∧ PyData.canLayAll0 qs = true ∧ PyData.depthAll qs ≤ n
  | _, [], _ => ⟨[], rfl, rfl, Nat.zero_le _⟩
  | n, x :: xs, h => by
    have h' := Bool.and_eq_true_iff.mp (show (D.pl n x && D.pls n xs) = true from h)
    obtain ⟨q, e, c, d⟩ := pl_pd0 n x h'.1
    obtain ⟨qs, e2, c2, d2⟩ := pls_pd0 n xs h'.2
    refine ⟨q :: qs, ?_, ?_, Nat.max_le.mpr ⟨d, d2⟩⟩
    · unfold pds0; rw [e, e2]
    · exact Bool.and_eq_true_iff.mpr ⟨c, c2⟩
end
theorem pds0_cons {x : D} {xs : List D} {qs : List PyData} (h : pds0 (x :: xs) = some qs) : ∃ p ps, pd0 x = some p ∧ pds0 xs = some ps ∧ qs = p :: ps := by
  unfold pds0 at h
  split at h
  · rename_i d ds e1 e2
    cases h
    exact ⟨d, ds, e1, e2, rfl⟩
  · cases h
theorem pd0_tup {xs : List D} {q : PyData} (h : pd0 (.tup xs) = some q) : ∃ ps, pds0 xs = some ps ∧ q = .tuple ps := by
  have h' : (pds0 xs).map PyData.tuple = some q := h
  cases e : pds0 xs with
  | none => rw [e] at h'; cases h'
  | some ps => rw [e] at h'; cases h'; exact ⟨ps, rfl, rfl⟩
theorem pd0_lst {xs : List D} {q : PyData} (h : pd0 (.lst xs) = some q) : ∃ ps, pds0 xs = some ps ∧ q = .list ps := by
  have h' : (pds0 xs).map PyData.list = some q := h
  cases e : pds0 xs with
  | none => rw [e] at h'; cases h'
  | some ps => rw [e] at h'; cases h'; exact ⟨ps, rfl, rfl⟩
theorem pds0_nil {qs : List PyData} (h : pds0 [] = some qs) : qs = [] := by
  have h' : some ([] : List PyData) = some qs := h
  cases h'; rfl
mutual
theorem eqv_ok : ∀ (x y : D) (p q : PyData), pd0 x = some p → pd0 y = some q → PyData.eqv p q = D.eq x y
  | .tup xs, y, p, q, h1, h2 => by
    obtain ⟨ps, e, rfl⟩ := pd0_tup h1
    cases y with
    | tup ys => obtain ⟨qs, e2, rfl⟩ := pd0_tup h2; exact eqvs_ok xs ys ps qs e e2
    | lst ys => obtain ⟨qs, e2, rfl⟩ := pd0_lst h2; simp [PyData.eqv, D.eq]
    | _ => cases h2 <;> simp [PyData.eqv, D.eq]
  | .lst xs, y, p, q, h1, h2 => by
    obtain ⟨ps, e, rfl⟩ := pd0_lst h1
    cases y with
    | tup ys => obtain ⟨qs, e2, rfl⟩ := pd0_tup h2; simp [PyData.eqv, D.eq]
    | lst ys => obtain ⟨qs, e2, rfl⟩ := pd0_lst h2; exact eqvs_ok xs ys ps qs e e2
    | _ => cases h2 <;> simp [PyData.eqv, D.eq]
  | .non, y, p, q, h1, h2 => by
    cases h1
    cases y with
    | tup ys => obtain ⟨qs, e2, rfl⟩ := pd0_tup h2; simp [PyData.eqv, D.eq]
    | lst ys => obtain ⟨qs, e2, rfl⟩ := pd0_lst h2; simp [PyData.eqv, D.eq]
    | _ => cases h2 <;> simp [PyData.eqv, D.eq]
  | .bl a, y, p, q, h1, h2 => by
    cases h1
    cases y with
    | tup ys => obtain ⟨qs, e2, rfl⟩ := pd0_tup h2; simp [PyData.eqv, D.eq]
    | lst ys => obtain ⟨qs, e2, rfl⟩ := pd0_lst h2; simp [PyData.eqv, D.eq]
    | _ => cases h2 <;> simp [PyData.eqv, D.eq]
  | .int a, y, p, q, h1, h2 => by
    cases h1
    cases y with
    | tup ys => obtain ⟨qs, e2, rfl⟩ := pd0_tup h2; simp [PyData.eqv, D.eq]
    | lst ys => obtain ⟨qs, e2, rfl⟩ := pd0_lst h2; simp [PyData.eqv, D.eq]
    | _ => cases h2 <;> simp [PyData.eqv, D.eq]
  | .str a, y, p, q, h1, h2 => by
    cases h1
    cases y with
    | tup ys => obtain ⟨qs, e2, rfl⟩ := pd0_tup h2; simp [PyData.eqv, D.eq]
    | lst ys => obtain ⟨qs, e2, rfl⟩ := pd0_lst h2; simp [PyData.eqv, D.eq]
    | _ => cases h2 <;> simp [PyData.eqv, D.eq]
  | .scr xs, y, p, q, h1, h2 => by cases h1
  | .obj xs, y, p, q, h1, h2 => by cases h1
  | .gl xs, y, p, q, h1, h2 => by cases h1
  | .ty xs, y, p, q, h1, h2 => by cases h1
  | .adr xs, y, p, q, h1, h2 => by cases h1
theorem eqvs_ok : ∀ (xs ys : List D) (ps qs : List PyData), pds0 xs = some ps → pds0 ys = some qs → PyData.eqvAll ps qs = D.eqs xs ys
  | [], [], ps, qs, h1, h2 => by
    obtain rfl := pds0_nil h1; obtain rfl := pds0_nil h2
    simp [PyData.eqvAll, D.eqs]
  | [], y :: ys, ps, qs, h1, h2 => by
    obtain rfl := pds0_nil h1
    obtain ⟨q, qs', e3, e4, rfl⟩ := pds0_cons h2
    simp [PyData.eqvAll, D.eqs]
  | x :: xs, [], ps, qs, h1, h2 => by
    obtain rfl := pds0_nil h2
    obtain ⟨q, qs', e3, e4, rfl⟩ := pds0_cons h1
    simp [PyData.eqvAll, D.eqs]
  | x :: xs, y :: ys, ps, qs, h1, h2 => by
    obtain ⟨p, ps', e1, e2, rfl⟩ := pds0_cons h1
    obtain ⟨q, qs', e3, e4, rfl⟩ := pds0_cons h2
    have i1 := eqv_ok x y p q e1 e3
    have i2 := eqvs_ok xs ys ps' qs' e2 e4
    simp only [PyData.eqvAll, D.eqs, i1, i2]
end
/-- the value behind a thing, for == -/
def D.vw (η : Store) : D → D
  | .obj i => match η[i]? with
    | some (.lst xs) => .lst xs
    | _ => .obj i
  | d => d
theorem pd_vw (d : D) (η : Store) : pd d η = pd0 (d.vw η) := by
  cases d with
  | obj i =>
    unfold pd D.vw
    dsimp only
    cases e : η[i]? with
    | none => rfl
    | some o => cases o <;> rfl
  | _ => rfl
theorem eqD_pl {x y : D} {η : Store} (hx : D.pl 60 (x.vw η) = true) (hy : D.pl 60 (y.vw η) = true) : eqD x y η = some (.bl (D.eq (x.vw η) (y.vw η)), η) := by
  obtain ⟨p, e1, c1, d1⟩ := pl_pd0 _ _ hx
  obtain ⟨q, e2, c2, d2⟩ := pl_pd0 _ _ hy
  unfold eqD
  rw [pd_vw, pd_vw, e1, e2]
  dsimp only
  have h1 : plainQ p := Bool.and_eq_true_iff.mpr ⟨c1, decide_eq_true (by omega)⟩
  have h2 : plainQ q := Bool.and_eq_true_iff.mpr ⟨c2, decide_eq_true (by omega)⟩
  rw [if_pos ⟨h1, h2⟩, eqv_ok _ _ _ _ e1 e2]
theorem neD_pl {x y : D} {η : Store} (hx : D.pl 60 (x.vw η) = true) (hy : D.pl 60 (y.vw η) = true) : neD x y η = some (.bl (!D.eq (x.vw η) (y.vw η)), η) := by
  obtain ⟨p, e1, c1, d1⟩ := pl_pd0 _ _ hx
  obtain ⟨q, e2, c2, d2⟩ := pl_pd0 _ _ hy
  unfold neD
  rw [pd_vw, pd_vw, e1, e2]
  dsimp only
  have h1 : plainQ p := Bool.and_eq_true_iff.mpr ⟨c1, decide_eq_true (by omega)⟩
  have h2 : plainQ q := Bool.and_eq_true_iff.mpr ⟨c2, decide_eq_true (by omega)⟩
  rw [if_pos ⟨h1, h2⟩, eqv_ok _ _ _ _ e1 e2]
section
variable {η : Store} {xs ys : List D} {i j : Int} {b : Bool}
@[simp] theorem eqD_int : eqD (.int i) (.int j) η = some (.bl (decide (i = j)), η) := by
  rw [eqD_pl (by rfl) (by rfl)]; rfl
@[simp] theorem neD_int : neD (.int i) (.int j) η = some (.bl (!decide (i = j)), η) := by
  rw [neD_pl (by rfl) (by rfl)]; rfl
/-! the operations on what is known -/
@[simp] theorem addD_int : addD (.int i) (.int j) η = some (.int (i + j), η) := rfl
@[simp] theorem addD_tup : addD (.tup xs) (.tup ys) η = if xs.length + ys.length ≤ sizeLine then some (.tup (xs ++ ys), η) else none := rfl
@[simp] theorem addD_lst_lst : addD (.lst xs) (.lst ys) η = if xs.length + ys.length ≤ sizeLine then some (.lst (xs ++ ys), η) else none := rfl
@[simp] theorem subD_int : subD (.int i) (.int j) η = some (.int (i - j), η) := rfl
theorem mulD_int (h : mulOk i j) : mulD (.int i) (.int j) η = some (.int (i * j), η) := by unfold mulD; exact if_pos h
theorem mulD_l (h : -(2 ^ 64) < i) (h2 : i < 2 ^ 64) : mulD (.int i) (.int j) η = some (.int (i * j), η) := mulD_int (.inl (.inl ⟨h, h2⟩))
theorem mulD_r (h : -(2 ^ 64) < j) (h2 : j < 2 ^ 64) : mulD (.int i) (.int j) η = some (.int (i * j), η) := mulD_int (.inl (.inr ⟨h, h2⟩))
theorem fdivD_int (h : 0 < j) (h2 : j < 1073741824) : fdivD (.int i) (.int j) η = some (.int (i / j), η) := by unfold fdivD; exact if_pos ⟨h, .inl h2⟩
theorem modD_int (h : 0 < j) : modD (.int i) (.int j) η = some (.int (i % j), η) := by unfold modD; exact if_pos h
@[simp] theorem negD_int : negD (.int i) η = some (.int (-i), η) := rfl
@[simp] theorem cmpI_int {p : Int → Int → Bool} : cmpI p (.int i) (.int j) η = some (.bl (p i j), η) := rfl
@[simp] theorem isD_non {x : D} : isD x .non η = some (.bl (isNon x), η) := rfl
@[simp] theorem isD_bl {a b : Bool} : isD (.bl a) (.bl b) η = some (.bl (decide (a = b)), η) := rfl
@[simp] theorem isNotD_non {x : D} : isNotD x .non η = some (.bl (!isNon x), η) := rfl
@[simp] theorem isNotD_bl {a b : Bool} : isNotD (.bl a) (.bl b) η = some (.bl (!decide (a = b)), η) := rfl
@[simp] theorem isNon_int : isNon (.int i) = false := rfl
@[simp] theorem isNon_non : isNon .non = true := rfl
@[simp] theorem isNon_tup : isNon (.tup xs) = false := rfl
@[simp] theorem isNon_lst : isNon (.lst xs) = false := rfl
@[simp] theorem isNon_bl : isNon (.bl b) = false := rfl
@[simp] theorem isNon_str {x : Str} : isNon (.str x) = false := rfl
@[simp] theorem truD_bl : truD (.bl b) η = some b := rfl
@[simp] theorem truD_int : truD (.int i) η = some (i != 0) := rfl
@[simp] theorem truD_non : truD .non η = some false := rfl
@[simp] theorem truD_lst : truD (.lst xs) η = some (!xs.isEmpty) := rfl
@[simp] theorem truD_tup : truD (.tup xs) η = some (!xs.isEmpty) := rfl
@[simp] theorem lenD_tup : lenD [.tup xs] η = some (.int xs.length, η) := rfl
@[simp] theorem lenD_lst : lenD [.lst xs] η = some (.int xs.length, η) := rfl
@[simp] theorem lenD_scr : lenD [.scr xs] η = some (.int xs.length, η) := rfl
@[simp] theorem absD_int : absD [.int i] η = some (.int (if i < 0 then -i else i), η) := rfl
@[simp] theorem intD_int : intD [.int i] η = some (.int i, η) := rfl
@[simp] theorem max2D_int : max2D [.int i, .int j] η = some (.int (if j > i then j else i), η) := rfl
@[simp] theorem min2D_int : min2D [.int i, .int j] η = some (.int (if j < i then j else i), η) := rfl
@[simp] theorem tupleD_lst : tupleD [.lst xs] η = some (.tup xs, η) := rfl
@[simp] theorem tupleD_tup : tupleD [.tup xs] η = some (.tup xs, η) := rfl
@[simp] theorem listD_tup : listD [.tup xs] η = some (.lst xs, η) := rfl
@[simp] theorem listD_lst : listD [.lst xs] η = some (.lst xs, η) := rfl
@[simp] theorem listD_scr : listD [.scr xs] η = some (.lst xs, η) := rfl
theorem allD_lst : allD [.lst xs] η = (boolsOf xs).map fun bs => (.bl (bs.all id), η) := rfl
theorem anyD_lst : anyD [.lst xs] η = (boolsOf xs).map fun bs => (.bl (bs.any id), η) := rfl
theorem sumD_lst : sumD [.lst xs] η = (intsOf xs).map fun ns => (.int ns.sum, η) := rfl
theorem sumD_tup : sumD [.tup xs] η = (intsOf xs).map fun ns => (.int ns.sum, η) := rfl
@[simp] theorem ixD_tup : ixD (.tup xs) (.int i) η = (atI xs i).map (·, η) := rfl
@[simp] theorem ixD_lst : ixD (.lst xs) (.int i) η = (atI xs i).map (·, η) := rfl
@[simp] theorem slD_tup {lo hi : Option Int} : slD (.tup xs) lo hi η = some (.tup (cutL xs lo hi), η) := rfl
@[simp] theorem slD_lst {lo hi : Option Int} : slD (.lst xs) lo hi η = some (.lst (cutL xs lo hi), η) := rfl
@[simp] theorem wpO_map {α β : Type} {f : α → β} {o : Option α} {Q : β → Prop} : wpO (o.map f) Q ↔ wpO o fun a => Q (f a) := by cases o <;> exact Iff.rfl
@[simp] theorem wpO_bind {α β : Type} {f : α → Option β} {o : Option α} {Q : β → Prop} : wpO (o.bind f) Q ↔ wpO o fun a => wpO (f a) Q := by cases o <;> exact Iff.rfl
theorem wpO_ite {α : Type} {c : Prop} [Decidable c] {a b : Option α} {Q : α → Prop} : wpO (if c then a else b) Q ↔ if c then wpO a Q else wpO b Q := by split <;> exact Iff.rfl
theorem wpO_of {α : Type} {o : Option α} {a : α} {Q : α → Prop} (h : o = some a) (q : Q a) : wpO o Q := by rw [h]; exact q
@[simp] theorem wpO_iteN {α : Type} {c : Prop} [Decidable c] {a : α} {Q : α → Prop} : wpO (if c then some a else none) Q ↔ c ∧ Q a := by by_cases h : c <;> simp [h]
variable {QP : D × Store → Prop}
@[simp] theorem wpO_mulD : wpO (mulD (.int i) (.int j) η) QP ↔ mulOk i j ∧ QP (.int (i * j), η) := by
  by_cases h : mulOk i j
  · rw [mulD_int h]; simp [h]
  · have e : mulD (.int i) (.int j) η = none := by unfold mulD; exact if_neg h
    rw [e]; simp [h]
@[simp] theorem wpO_fdivD : wpO (fdivD (.int i) (.int j) η) QP ↔ divOk j ∧ QP (.int (i / j), η) := by
  by_cases h : divOk j
  · have e : fdivD (.int i) (.int j) η = some (.int (i / j), η) := by unfold fdivD; exact if_pos h
    rw [e]; simp [h]
  · have e : fdivD (.int i) (.int j) η = none := by unfold fdivD; exact if_neg h
    rw [e]; simp [h]
@[simp] theorem wpO_modD : wpO (modD (.int i) (.int j) η) QP ↔ 0 < j ∧ QP (.int (i % j), η) := by
  have e : modD (.int i) (.int j) η = if 0 < j then some (.int (i % j), η) else none := rfl
  rw [e, wpO_iteN]
@[simp] theorem wpO_powD : wpO (powD (.int i) (.int j) η) QP ↔ (0 ≤ j ∧ j ≤ 1000000 ∧ i.natAbs < 2 ^ 64) ∧ QP (.int (i ^ j.toNat), η) := by
  have e : powD (.int i) (.int j) η = if 0 ≤ j ∧ j ≤ 1000000 ∧ i.natAbs < 2 ^ 64 then some (.int (i ^ j.toNat), η) else none := rfl
  rw [e, wpO_iteN]
@[simp] theorem mulOk_r (h : -18446744073709551616 < j) (h2 : j < 18446744073709551616) : mulOk i j := .inl (.inr ⟨h, h2⟩)
@[simp] theorem mulOk_l (h : -18446744073709551616 < i) (h2 : i < 18446744073709551616) : mulOk i j := .inl (.inl ⟨h, h2⟩)
@[simp] theorem divOk_lit (h : 0 < j) (h2 : j < 1073741824) : divOk j := ⟨h, .inl h2⟩
@[simp] theorem szle {n : Nat} (h : n ≤ 1000000) : n ≤ sizeLine := Nat.le_trans h (by decide)
/-- xs[i], i from the front -/
theorem atI_nat {n : Nat} {α : Type} {xs : List α} (h : n < xs.length) : atI xs (n : Int) = some xs[n] := by
  unfold atI ixN
  rw [if_pos (by omega), if_pos (by omega)]
  simp [List.getElem?_eq_getElem h]
theorem atI_pos {α : Type} {xs : List α} {i : Int} (h0 : 0 ≤ i) (h : i < xs.length) : atI xs i = xs[i.toNat]? := by
  unfold atI ixN
  rw [if_pos h0, if_pos h]; rfl
theorem atI_neg {α : Type} {xs : List α} {i : Int} (h0 : i < 0) (h : -(xs.length : Int) ≤ i) : atI xs i = xs[(i + xs.length).toNat]? := by
  unfold atI ixN
  rw [if_neg (by omega), if_pos h]; rfl
@[simp] theorem atI_zero {α : Type} {x : α} {xs : List α} : atI (x :: xs) 0 = some x := by
  unfold atI ixN
  rw [if_pos (by omega), if_pos (by simp)]; rfl
@[simp] theorem atI_one {α : Type} {x y : α} {xs : List α} : atI (x :: y :: xs) 1 = some y := by
  unfold atI ixN
  rw [if_pos (by omega), if_pos (by simp; omega)]; rfl
@[simp] theorem atI_two {α : Type} {x y z : α} {xs : List α} : atI (x :: y :: z :: xs) 2 = some z := by
  unfold atI ixN
  rw [if_pos (by omega), if_pos (by simp; omega)]; rfl
theorem atI_last {α : Type} {xs : List α} (h : xs ≠ []) : atI xs (-1) = some (xs.getLast h) := by
  have hl : 0 < xs.length := List.length_pos_iff.mpr h
  rw [atI_neg (by omega) (by omega)]
  have e : ((-1 : Int) + xs.length).toNat = xs.length - 1 := by omega
  rw [e, List.getLast_eq_getElem, List.getElem?_eq_getElem (by omega)]
@[simp] theorem cutL_from1 : cutL xs (some 1) none = xs.tail := by
  unfold cutL
  rw [HT.sIx_none]
  have e : HT.sIx xs.length 0 (some 1) = min 1 xs.length := HT.sIx_nat _ _ 1
  rw [e]
  cases xs with
  | nil => rfl
  | cons x xs => simp
theorem cutL_last1 : cutL xs (some (-1)) none = xs.drop (xs.length - 1) := by
  unfold cutL
  rw [HT.sIx_none]
  have e : HT.sIx xs.length 0 (some (-1)) = xs.length - 1 := by
    show (if (-1 : Int) < 0 then ((-1 : Int) + (xs.length : Int)).toNat else min (-1 : Int).toNat xs.length) = _
    rw [if_pos (by omega)]; omega
  rw [e, List.take_of_length_le (by simp)]
theorem cutL_but1 : cutL xs none (some (-1)) = xs.take (xs.length - 1) := by
  unfold cutL
  rw [HT.sIx_none]
  have e : HT.sIx xs.length xs.length (some (-1)) = xs.length - 1 := by
    show (if (-1 : Int) < 0 then ((-1 : Int) + (xs.length : Int)).toNat else min (-1 : Int).toNat xs.length) = _
    rw [if_pos (by omega)]; omega
  rw [e]; simp
@[simp] theorem boolsOf_nil : boolsOf [] = some [] := rfl
@[simp] theorem boolsOf_cons {ds : List D} : boolsOf (.bl b :: ds) = (boolsOf ds).map (b :: ·) := rfl
@[simp] theorem tyNm_bool : tyNm "bool" = some .bool := rfl
@[simp] theorem tyNm_int : tyNm "int" = some .int := rfl
@[simp] theorem tyNm_str : tyNm "str" = some .str := rfl
@[simp] theorem tyNm_tuple : tyNm "tuple" = some .tuple := rfl
@[simp] theorem tyNm_list : tyNm "list" = some .list := rfl
@[simp] theorem tyNm_dict : tyNm "dict" = some .dict := rfl
@[simp] theorem tyB_eq (a b : Ty) : tyB a b = (decide (a = b) || (decide (a = .bool) && decide (b = .int))) := by cases a <;> cases b <;> rfl
@[simp] theorem isi_non {n : String} : isiD [.non , .ty n] η = (tyNm n).map fun b => (.bl (tyB .non b), η) := by
  show (match tyNm n with | some b => some (D.bl (tyB .non b), η) | none => none) = _
  cases tyNm n <;> rfl
@[simp] theorem isi_bl {n : String} : isiD [.bl b, .ty n] η = (tyNm n).map fun b => (.bl (tyB .bool b), η) := by
  show (match tyNm n with | some b => some (D.bl (tyB .bool b), η) | none => none) = _
  cases tyNm n <;> rfl
@[simp] theorem isi_int {n : String} : isiD [.int i, .ty n] η = (tyNm n).map fun b => (.bl (tyB .int b), η) := by
  show (match tyNm n with | some b => some (D.bl (tyB .int b), η) | none => none) = _
  cases tyNm n <;> rfl
@[simp] theorem isi_tup {n : String} : isiD [.tup xs, .ty n] η = (tyNm n).map fun b => (.bl (tyB .tuple b), η) := by
  show (match tyNm n with | some b => some (D.bl (tyB .tuple b), η) | none => none) = _
  cases tyNm n <;> rfl
@[simp] theorem isi_lst {n : String} : isiD [.lst xs, .ty n] η = (tyNm n).map fun b => (.bl (tyB .list b), η) := by
  show (match tyNm n with | some b => some (D.bl (tyB .list b), η) | none => none) = _
  cases tyNm n <;> rfl
@[simp] theorem isi_scr {n : String} : isiD [.scr xs, .ty n] η = (tyNm n).map fun b => (.bl (tyB .list b), η) := by
  show (match tyNm n with | some b => some (D.bl (tyB .list b), η) | none => none) = _
  cases tyNm n <;> rfl
@[simp] theorem isi_str {x : Str} {n : String} : isiD [.str x, .ty n] η = (tyNm n).map fun b => (.bl (tyB .str b), η) := by
  show (match tyNm n with | some b => some (D.bl (tyB .str b), η) | none => none) = _
  cases tyNm n <;> rfl
theorem isi_of {d : D} {a b : Ty} {n : String} (h : tyOf d η = some a) (h2 : tyNm n = some b) : isiD [d, .ty n] η = some (.bl (tyB a b), η) := by
  show (match tyOf d η with | some a => (match tyNm n with | some b => some (D.bl (tyB a b), η) | none => none) | none => none) = _
  rw [h]; dsimp only; rw [h2]
/-! iterables -/
variable {ρ : Env} {f : FE} {fA : FA} {QS : Src → Store → Prop} {E : Ex → Store → Prop}
@[simp] theorem w_iVal : wpR (iVal f ρ η) QS E ↔ wpR (f ρ η) (fun d η => wpO (srcOf d η) fun s => QS s η) E := by
  unfold iVal; rw [wpR_bind]
  refine wpR_congr fun d η => ?_
  cases h : srcOf d η <;> exact Iff.rfl
@[simp] theorem srcOf_tup : srcOf (.tup xs) η = some (.val xs) := rfl
@[simp] theorem srcOf_lst : srcOf (.lst xs) η = some (.val xs) := rfl
@[simp] theorem srcOf_scr : srcOf (.scr xs) η = some (.val xs) := rfl
@[simp] theorem sqOf_tup : sqOf (.tup xs) η = some (.val xs) := rfl
@[simp] theorem sqOf_lst : sqOf (.lst xs) η = some (.val xs) := rfl
def twoD (ds : List D) : Option (D × D) := match ds with
  | [x, y] => some (x, y)
  | _ => none
@[simp] theorem twoD_two {x y : D} : twoD [x, y] = some (x, y) := rfl
def oneD (ds : List D) : Option D := match ds with
  | [x] => some x
  | _ => none
@[simp] theorem oneD_one {x : D} : oneD [x] = some x := rfl
@[simp] theorem w_iZip : wpR (iZip fA ρ η) QS E ↔ wpR (fA ρ η) (fun ds η => wpO (twoD ds) fun p => wpO (sqOf p.1 η) fun s1 => wpO (sqOf p.2 η) fun s2 => QS (zipS s1 s2) η) E := by
  unfold iZip; rw [wpR_bind]
  refine wpR_congr fun ds η => ?_
  match ds with
  | [] => exact Iff.rfl
  | [x] => exact Iff.rfl
  | [x, y] =>
    dsimp only [twoD]
    cases h : sqOf x η with
    | none => simp [h]
    | some s1 => cases h2 : sqOf y η <;> simp [h, h2]
  | x :: y :: z :: r => exact Iff.rfl
@[simp] theorem zipS_val : zipS (.val xs) (.val ys) = .val (List.zipWith (fun x y => .tup [x, y]) xs ys) := rfl
@[simp] theorem w_iEnum : wpR (iEnumS fA ρ η) QS E ↔ wpR (fA ρ η) (fun ds η => wpO (oneD ds) fun x => wpO (sqOf x η) fun s1 => QS (enumS s1) η) E := by
  unfold iEnumS; rw [wpR_bind]
  refine wpR_congr fun ds η => ?_
  match ds with
  | [] => exact Iff.rfl
  | [x] =>
    dsimp only [oneD]
    cases h : sqOf x η <;> simp [h]
  | x :: y :: r => exact Iff.rfl
@[simp] theorem enumS_val : enumS (.val xs) = .val (xs.zipIdx.map fun q => .tup [.int (q.2 : Nat), q.1]) := rfl
@[simp] theorem w_iRng1 : wpR (iRng1 fA ρ η) QS E ↔ wpR (fA ρ η) (fun ds η => wpO (oneD ds) fun x => wpO (isI x) fun j => big62 j ∧ QS (.val (rng 0 j.toNat)) η) E := by
  unfold iRng1; rw [wpR_bind]
  refine wpR_congr fun ds η => ?_
  match ds with
  | [] => exact Iff.rfl
  | [x] =>
    cases x with
    | int j =>
      show wpR (if big62 j then _ else _) QS E ↔ _
      by_cases h : big62 j
      · rw [if_pos h]; simp [h]
      · rw [if_neg h]; simp [h]
    | _ => exact Iff.rfl
  | x :: y :: r => cases x <;> exact Iff.rfl
@[simp] theorem w_iRng2 : wpR (iRng2 fA ρ η) QS E ↔ wpR (fA ρ η) (fun ds η => wpO (twoD ds) fun p => wpO (isI p.1) fun i => wpO (isI p.2) fun j => (big62 i ∧ big62 j) ∧ QS (.val (rng i (j - i).toNat)) η) E := by
  unfold iRng2; rw [wpR_bind]
  refine wpR_congr fun ds η => ?_
  match ds with
  | [] => exact Iff.rfl
  | [x] => cases x <;> exact Iff.rfl
  | [x, y] =>
    cases x with
    | int i =>
      cases y with
      | int j =>
        show wpR (if big62 i ∧ big62 j then _ else _) QS E ↔ _
        by_cases h : big62 i ∧ big62 j
        · rw [if_pos h]; simp [h]
        · rw [if_neg h]; simp [h]
      | _ => exact Iff.rfl
    | _ => exact Iff.rfl
  | x :: y :: z :: r => cases x <;> cases y <;> exact Iff.rfl
end
end Dn
/-! Dn part 15: the cup of draws; things told by values. -/
namespace Dn
open PySem PySem.Spec PyProof.Rows L2
section
variable {η η1 η2 η3 : Store} {k i j : Nat} {xs ys : List D} {v : D} {n : Int}
theorem ixD_obj (h : η[k]? = some (.lst xs)) : ixD (.obj k) (.int n) η = (atI xs n).map (·, η) := by
  show (match seqL (.obj k) η with | some xs => (atI xs n).map (·, η) | none => none) = _
  have e : seqL (.obj k) η = some xs := by unfold seqL; dsimp only; rw [h]
  rw [e]
theorem setD_obj (h : η[k]? = some (.lst xs)) {m : Nat} (hm : ixN xs.length n = some m) : setD (.obj k) (.int n) v η = some (η.set k (.lst (xs.set m v))) := by
  unfold setD
  dsimp only
  rw [h]; dsimp only; rw [hm]
theorem lenD_obj (h : η[k]? = some (.lst xs)) : lenD [.obj k] η = some (.int xs.length, η) := by
  show (match seqL (.obj k) η with | some xs => some (D.int xs.length, η) | none => none) = _
  have e : seqL (.obj k) η = some xs := by unfold seqL; dsimp only; rw [h]
  rw [e]
theorem tyM_obj (h : η[k]? = some (.lst xs)) : tyM "list" (.obj k) η = true := by
  unfold tyM; dsimp only; rw [h]; rfl
theorem appD_obj (h : η[k]? = some (.lst xs)) (hl : xs.length < sizeLine) : appD (.obj k) [v] η = some (.non, η.set k (.lst (xs ++ [v]))) := by
  unfold appD
  dsimp only
  have e : objL (.obj k) η = some (k, xs) := by unfold objL; dsimp only; rw [h]
  rw [e]
  exact if_pos hl
theorem tupleD_obj (h : η[k]? = some (.lst xs)) : tupleD [.obj k] η = some (.tup xs, η) := by
  show (match seqL (.obj k) η with | some xs => some (D.tup xs, η) | none => none) = _
  have e : seqL (.obj k) η = some xs := by unfold seqL; dsimp only; rw [h]
  rw [e]
theorem get_set (h : η[k]? = some v') {o : O} : (η.set k o)[k]? = some o := by
  have := (List.getElem?_eq_some_iff.mp h).1
  simp [this]
@[simp] theorem seqL_lst : seqL (.lst xs) η = some xs := rfl
/-- what a trimmed call comes to -/
theorem trim_ok {F : FF} {ds : List D} {d : D} {η l : Store} (h : F ds η = .ok d (η ++ l)) (hl : D.low η.length d = true) : trimF F ds η = .ok d η := by
  have hk : keepS η (η ++ l) := keepS_app _ _
  have hc : cutD η.length (η ++ l) d = some d := by
    cases d with
    | obj i =>
      have hi : i < η.length := by simpa [D.low] using hl
      unfold cutD; exact if_pos hi
    | _ => unfold cutD; exact if_pos hl
  unfold trimF
  rw [h]
  unfold trimR
  dsimp only
  rw [if_pos hk, hc]
  simp
theorem lows_int {n : Nat} : ∀ l : List Int, D.lows n (l.map D.int) = true
  | [] => rfl
  | _ :: l => lows_int l
theorem low_tup {n : Nat} {l : List Int} : D.low n (.tup (l.map D.int)) = true := lows_int l
/-- a cup of draws: two numbers -/
def Cup (k : Nat) (η : Store) : Prop := ∃ a b : Int, 0 ≤ a ∧ 0 ≤ b ∧ η[k]? = some (.lst [.int a, .int b])
/-- all but one thing stands -/
structure Keep (k : Nat) (η η' : Store) : Prop where
  le : η.length ≤ η'.length
  eq : ∀ j, j < η.length → j ≠ k → η'[j]? = η[j]?
theorem Keep.refl : Keep k η η := ⟨Nat.le_refl _, fun _ _ _ => rfl⟩
theorem Keep.trans (a : Keep k η1 η2) (b : Keep k η2 η3) : Keep k η1 η3 := ⟨Nat.le_trans a.le b.le, fun j h n => (b.eq j (Nat.lt_of_lt_of_le h a.le) n).trans (a.eq j h n)⟩
theorem Keep.set {o : O} : Keep k η (η.set k o) := ⟨by simp, fun j _ n => List.getElem?_set_ne (Ne.symm n)⟩
theorem Keep.app {l : List O} : Keep k η (η ++ l) := ⟨by simp, fun j h _ => List.getElem?_append_left h⟩
theorem Cup.app {l : List O} (c : Cup k η) : Cup k (η ++ l) := by
  obtain ⟨a, b, ha, hb, e⟩ := c
  exact ⟨a, b, ha, hb, by rw [List.getElem?_append_left (List.getElem?_eq_some_iff.mp e).1]; exact e⟩
theorem Cup.lt (c : Cup k η) : k < η.length := by
  obtain ⟨a, b, ha, hb, e⟩ := c
  exact (List.getElem?_eq_some_iff.mp e).1
theorem Cup.set {a b : Int} (c : Cup k η) (ha : 0 ≤ a) (hb : 0 ≤ b) : Cup k (η.set k (.lst [.int a, .int b])) :=
  ⟨a, b, ha, hb, by simp [c.lt]⟩
theorem Cup.keep {j : Nat} (c : Cup k η) (h : Keep j η η1) (n : j ≠ k) : Cup k η1 := by
  obtain ⟨a, b, ha, hb, e⟩ := c
  exact ⟨a, b, ha, hb, by rw [h.eq k (List.getElem?_eq_some_iff.mp e).1 (Ne.symm n)]; exact e⟩
end
/-- what a def of draws does: from the cup, an integer below many -/
def RollOk (F : FF) : Prop := ∀ (k : Nat) (η : Store) (m : Int), Cup k η → 0 < m → m < 1073741824 → ∃ (r : Int) (η' : Store), F [.obj k, .int m] η = .ok (.int r) η' ∧ 0 ≤ r ∧ r < m ∧ Cup k η' ∧ Keep k η η'
theorem RollOk.wp {F : FF} (h : RollOk F) {k : Nat} {η : Store} {m : Int} {Q : D → Store → Prop} {E : Ex → Store → Prop} (c : Cup k η) (h0 : 0 < m) (h1 : m < 1073741824) (q : ∀ r η', 0 ≤ r → r < m → Cup k η' → Keep k η η' → Q (.int r) η') : wpR (F [.obj k, .int m] η) Q E := by
  obtain ⟨r, η', e, h2, h3, c2, kp⟩ := h k η m c h0 h1
  rw [e]; exact q r η' h2 h3 c2 kp
/-- one of several things -/
def SomeOk (F : FF) : Prop := ∀ (k : Nat) (η : Store) (xs : List D), Cup k η → 0 < xs.length → xs.length < 1000000000 → ∃ (i : Nat) (x : D) (η' : Store), F [.obj k, .lst xs] η = .ok x η' ∧ xs[i]? = some x ∧ Cup k η' ∧ Keep k η η'
theorem SomeOk.wp {F : FF} (h : SomeOk F) {k : Nat} {η : Store} {xs : List D} {Q : D → Store → Prop} {E : Ex → Store → Prop} (c : Cup k η) (h0 : 0 < xs.length) (h1 : xs.length < 1000000000) (q : ∀ x η', x ∈ xs → Cup k η' → Keep k η η' → Q x η') : wpR (F [.obj k, .lst xs] η) Q E := by
  obtain ⟨i, x, η', e, h2, c2, kp⟩ := h k η xs c h0 h1
  rw [e]; exact q x η' (List.mem_of_getElem? h2) c2 kp
/-- the first cup -/
def CupOk (F : FF) : Prop := ∀ ns : List Int, ns.length ≤ 63 → ∃ (η : Store), F [.scr (ns.map D.int)] [] = .ok (.obj 0) η ∧ Cup 0 η
/-- values with a type that isinstance serves -/
def D.typ : D → Bool
  | .obj _ => false
  | .gl _ => false
  | .ty _ => false
  | .adr _ => false
  | _ => true
theorem typ_ty {d : D} (h : d.typ = true) (η : Store) : ∃ a, tyOf d η = some a := by
  cases d <;> first | exact ⟨_, rfl⟩ | cases h
/-- what _law_same likes: plain values, tuples of such -/
def D.sm : Nat → D → Bool
  | _, .non => true
  | _, .bl _ => true
  | _, .int _ => true
  | _, .str x => PyData.canLay0 (.str x)
  | n + 1, .tup xs => xs.all (D.sm n) && decide (xs.length ≤ 1000000)
  | _, _ => false
/-- it says of a value and itself that they are alike -/
def SameOk (F : Nat → FF) : Prop := ∀ (n : Nat) (d : D) (η : Store), D.sm n d = true → F (n + 1) [d, d] η = .ok (.bl true) η
theorem eqD_str {x : Str} {η : Store} (h : PyData.canLay0 (.str x) = true) : eqD (.str x) (.str x) η = some (.bl true, η) := by
  rw [eqD_pl (by simpa [D.vw, D.pl] using h) (by simpa [D.vw, D.pl] using h)]
  simp [D.vw, D.eq]
theorem ok_of_wpR1 {α : Type} {r : R α} {d : α} {η : Store} (h : wpR r (fun a η' => a = d ∧ η' = η) (fun _ _ => False)) : r = .ok d η := by
  obtain ⟨a, η', e, rfl, rfl⟩ := ok_of_wpR h
  exact e
theorem rng_map {lo : Int} {n : Nat} {g : D → D} : (rng lo n).map g = (List.range n).map fun i => g (.int (lo + (i : Nat))) := by
  unfold rng; rw [List.map_map]; rfl
section
variable {α : Type} {b : TGt} {s : FT} {te : FE} {ρ : Env} {η : Store}
theorem cmp_of (f g : α → D) (l : List α) (h : ∀ x ∈ l, ∃ ρ1, b (f x) ρ = some ρ1 ∧ s ρ1 η = .ok true η ∧ te ρ1 η = .ok (g x) η) : cmp b s te ρ (l.map f) η = .ok (l.map g) η := by
  induction l with
  | nil => rfl
  | cons x l ih =>
    obtain ⟨ρ1, e1, e2, e3⟩ := h x List.mem_cons_self
    have ih := ih fun y hy => h y (List.mem_cons_of_mem _ hy)
    rw [List.map_cons, List.map_cons]
    unfold cmp
    rw [e1]; dsimp only
    rw [e2, R.bind_ok, if_pos rfl, e3, R.bind_ok, ih, R.bind_ok]
theorem cmp_off (f g : α → D) (p : α → Bool) (l : List α) (h : ∀ x ∈ l, ∃ ρ1, b (f x) ρ = some ρ1 ∧ s ρ1 η = .ok (p x) η ∧ (p x = true → te ρ1 η = .ok (g x) η)) : cmp b s te ρ (l.map f) η = .ok ((l.filter p).map g) η := by
  induction l with
  | nil => rfl
  | cons x l ih =>
    obtain ⟨ρ1, e1, e2, e3⟩ := h x List.mem_cons_self
    have ih := ih fun y hy => h y (List.mem_cons_of_mem _ hy)
    rw [List.map_cons]
    unfold cmp
    rw [e1]; dsimp only
    rw [e2, R.bind_ok]
    cases hp : p x with
    | true => rw [if_pos rfl, e3 hp, R.bind_ok, ih, R.bind_ok, List.filter_cons_of_pos hp]; rfl
    | false => rw [if_neg (by simp), ih, List.filter_cons_of_neg (by simp [hp])]
theorem boolsOf_map (f : α → Bool) : ∀ l : List α, boolsOf (l.map fun x => .bl (f x)) = some (l.map f)
  | [] => rfl
  | x :: l => by rw [List.map_cons, boolsOf_cons, boolsOf_map f l]; rfl
theorem intsOf_map (f : α → Int) : ∀ l : List α, intsOf (l.map fun x => .int (f x)) = some (l.map f)
  | [] => rfl
  | x :: l => by
    rw [List.map_cons]
    show (intsOf (l.map fun x => .int (f x))).map _ = _
    rw [intsOf_map f l]; rfl
@[simp] theorem allD_map (f : α → Bool) (l : List α) : allD [.lst (l.map fun x => .bl (f x))] η = some (.bl (l.all f), η) := by
  rw [allD_lst, boolsOf_map, Option.map_some, List.all_map]; rfl
@[simp] theorem anyD_map (f : α → Bool) (l : List α) : anyD [.lst (l.map fun x => .bl (f x))] η = some (.bl (l.any f), η) := by
  rw [anyD_lst, boolsOf_map, Option.map_some, List.any_map]; rfl
@[simp] theorem sumD_map (f : α → Int) (l : List α) : sumD [.lst (l.map fun x => .int (f x))] η = some (.int (l.map f).sum, η) := by
  rw [sumD_lst, intsOf_map, Option.map_some]
theorem zip_maps {β : Type} (f : α → D) (g : β → D) : ∀ (l : List α) (m : List β), List.zipWith (fun x y => D.tup [x, y]) (l.map f) (m.map g) = (l.zip m).map fun p => .tup [f p.1, g p.2]
  | [], _ => by simp
  | _ :: _, [] => by simp
  | x :: l, y :: m => by
    rw [List.map_cons, List.map_cons, List.zipWith_cons_cons, zip_maps f g l m]; rfl
end
theorem zw_zip {α β : Type} (f : α → D) (g : β → D) (l : List α) (m : List β) : List.zipWith (fun a b => D.tup [f a, g b]) l m = (l.zip m).map fun p => .tup [f p.1, g p.2] := by
  rw [← zip_maps, List.zipWith_map]
theorem mem_rng {lo : Int} {n : Nat} {x : D} : x ∈ rng lo n ↔ ∃ i : Nat, i < n ∧ x = .int (lo + (i : Nat)) := by
  unfold rng
  simp only [List.mem_map, List.mem_range]
  exact ⟨fun ⟨i, h, e⟩ => ⟨i, h, e.symm⟩, fun ⟨i, h, e⟩ => ⟨i, h, e.symm⟩⟩
theorem rng_length {lo : Int} {n : Nat} : (rng lo n).length = n := by unfold rng; simp
theorem map_const {α : Type} {d : D} : ∀ l : List α, l.map (fun _ => d) = List.replicate l.length d
  | [] => rfl
  | _ :: l => by rw [List.map_cons, map_const l]; rfl
theorem boolsOf_true : ∀ n : Nat, boolsOf (List.replicate n (.bl true)) = some (List.replicate n true)
  | 0 => rfl
  | n + 1 => by rw [List.replicate_succ, boolsOf_cons, boolsOf_true n]; rfl
end Dn
/-! Dn part 16: sorted of a dict of pairs; lists of whole numbers. -/
namespace Dn
open PySem PySem.Spec PyProof.Rows L2
/-- strictly rising -/
def rise : List Int → Bool
  | [] => true
  | [_] => true
  | x :: y :: r => decide (x < y) && rise (y :: r)
theorem rise_iff : ∀ {l : List Int}, rise l = true ↔ l.Pairwise (· < ·)
  | [] => by simp [rise]
  | [x] => by simp [rise]
  | x :: y :: r => by
    have ih := rise_iff (l := y :: r)
    show (decide (x < y) && rise (y :: r)) = true ↔ _
    rw [Bool.and_eq_true_iff, ih, List.pairwise_cons (a := x)]
    constructor
    · rintro ⟨h1, h2⟩
      have h1' : x < y := of_decide_eq_true h1
      refine ⟨fun z hz => ?_, h2⟩
      rcases List.mem_cons.mp hz with rfl | hz
      · exact h1'
      · exact Int.lt_trans h1' ((List.pairwise_cons.mp h2).1 z hz)
    · rintro ⟨h1, h2⟩
      exact ⟨decide_eq_true (h1 y List.mem_cons_self), h2⟩
theorem rise_get {ns : List Int} {i : Nat} (hr : rise ns = true) (h : i + 1 < ns.length) : ns[i] < ns[i + 1] :=
  List.pairwise_iff_getElem.mp (rise_iff.mp hr) i (i + 1) (by omega) h (by omega)
theorem rise_zip : ∀ ns : List Int, rise ns = (ns.zip ns.tail).all fun p => decide (p.1 < p.2)
  | [] => rfl
  | [_] => rfl
  | x :: y :: r => by
    have ih := rise_zip (y :: r)
    show (decide (x < y) && rise (y :: r)) = _
    rw [ih]; rfl
/-- the different ones, in the order of their first place -/
def ddI (acc : List Int) : List Int → List Int
  | [] => acc
  | n :: r => ddI (if n ∈ acc then acc else acc ++ [n]) r
theorem ddI_nodup : ∀ (ns acc : List Int), acc.Nodup → (ddI acc ns).Nodup
  | [], _, h => h
  | n :: r, acc, h => by
    refine ddI_nodup r _ ?_
    split
    · exact h
    · rename_i hn
      exact List.nodup_append.mpr ⟨h, by simp, fun a ha b hb => by
        have : b = n := by simpa using hb
        subst this
        intro e; subst e; exact hn ha⟩
theorem ddI_mem : ∀ (ns acc : List Int) (x : Int), x ∈ ddI acc ns ↔ x ∈ acc ∨ x ∈ ns
  | [], _, x => by simp [ddI]
  | n :: r, acc, x => by
    show x ∈ ddI (if n ∈ acc then acc else acc ++ [n]) r ↔ _
    rw [ddI_mem r]
    split
    · rename_i h
      constructor
      · rintro (a | a)
        · exact .inl a
        · exact .inr (List.mem_cons_of_mem _ a)
      · rintro (a | a)
        · exact .inl a
        · rcases List.mem_cons.mp a with rfl | a
          · exact .inl h
          · exact .inr a
    · simp [or_assoc]
theorem ddI_len : ∀ (ns acc : List Int), (ddI acc ns).length ≤ acc.length + ns.length
  | [], _ => by simp [ddI]
  | n :: r, acc => by
    refine Nat.le_trans (ddI_len r _) ?_
    split <;> simp <;> omega
/-- sorted, each once -/
def sortU (ns : List Int) : List Int := sortI (ddI [] ns)
theorem mem_sortI {x : Int} {l : List Int} : x ∈ sortI l ↔ x ∈ l := (sortI_perm l).mem_iff
theorem mem_sortU {x : Int} {ns : List Int} : x ∈ sortU ns ↔ x ∈ ns := by
  unfold sortU; rw [mem_sortI, ddI_mem]; simp
theorem len_sortI {l : List Int} : (sortI l).length = l.length := (sortI_perm l).length_eq
theorem len_sortU {ns : List Int} : (sortU ns).length ≤ ns.length := by
  unfold sortU; rw [len_sortI]; simpa using ddI_len ns []
theorem rise_sortU {ns : List Int} : rise (sortU ns) = true := by
  have h1 : (sortU ns).Nodup := (sortI_perm _).nodup_iff.mpr (ddI_nodup ns [] List.nodup_nil)
  have h2 : (sortU ns).Pairwise (· ≤ ·) := sortI_sorted _
  refine rise_iff.mpr ?_
  exact List.Pairwise.imp₂ (fun a b h n => by omega) h2 (List.nodup_iff_pairwise_ne.mp h1)
theorem keys_putD {kvs : List (Key × D)} {acc : List Int} {n : Int} {v : D} (h : kvs.map (·.1) = acc.map Sum.inl) : (putD kvs (.inl n) v).map (·.1) = (if n ∈ acc then acc else acc ++ [n]).map Sum.inl := by
  have e : (kvs.any fun kv => decide (kv.1 = (.inl n : Key))) = decide (n ∈ acc) := by
    have e1 : (kvs.any fun kv => decide (kv.1 = (.inl n : Key))) = (kvs.map (·.1)).any fun k => decide (k = (.inl n : Key)) := by rw [List.any_map]; rfl
    rw [e1, h, List.any_map, Bool.eq_iff_iff]
    simp
  unfold putD
  rw [e]
  by_cases hn : n ∈ acc
  · rw [if_pos (by simpa using hn), if_pos hn, ← h, List.map_map]
    refine List.map_congr_left fun kv _ => ?_
    simp only [Function.comp]
    split <;> rfl
  · rw [if_neg (by simpa using hn), if_neg hn, List.map_append, h]
    simp
theorem keys_mergeD : ∀ {ns : List Int} {v : D} {kvs : List (Key × D)} {acc : List Int}, kvs.map (·.1) = acc.map Sum.inl → (mergeD kvs (ns.map fun n => (.inl n, v))).map (·.1) = (ddI acc ns).map Sum.inl
  | [], _, _, _, h => h
  | n :: r, v, kvs, acc, h => by
    show (mergeD (putD kvs (.inl n) v) (r.map fun n => (.inl n, v))).map (·.1) = _
    rw [keys_mergeD (keys_putD h)]; rfl
theorem intKeys_map : ∀ l : List Int, intKeys (l.map Sum.inl) = some l
  | [] => rfl
  | x :: l => by
    show (intKeys (l.map Sum.inl)).map (x :: ·) = _
    rw [intKeys_map l]; rfl
theorem pairsD_map (v : D) : ∀ ns : List Int, pairsD (ns.map fun n => .tup [.int n, v]) = some (ns.map fun n => (.inl n, v))
  | [] => rfl
  | n :: r => by
    show (pairD (.tup [.int n, v])).bind _ = _
    show ((pairsD (r.map fun n => .tup [.int n, v])).map _) = _
    rw [pairsD_map v r]; rfl
section
variable {η : Store} {ns : List Int} {v : D}
theorem dictD_map : dictD [.lst (ns.map fun n => .tup [.int n, v])] η = some (.obj η.length, η ++ [.dK (mergeD [] (ns.map fun n => (.inl n, v)))]) := by
  unfold dictD
  dsimp only [seqL]
  rw [pairsD_map]
theorem sortedD_dict (h : ns.length < 64) : sortedD [.obj η.length] (η ++ [.dK (mergeD [] (ns.map fun n => (.inl n, v)))]) = some (.lst ((sortU ns).map D.int), η ++ [.dK (mergeD [] (ns.map fun n => (.inl n, v)))]) := by
  have e : (η ++ [.dK (mergeD [] (ns.map fun n => (.inl n, v)))])[η.length]? = some (.dK (mergeD [] (ns.map fun n => (.inl n, v)))) := by simp
  unfold sortedD
  dsimp only [seqL]
  rw [e]
  dsimp only
  rw [keys_mergeD (acc := []) rfl, intKeys_map]
  dsimp only
  rw [if_pos (by have := ddI_len ns []; simp at this; omega)]
  rfl
theorem sortedD_lst : sortedD [.lst (ns.map D.int)] η = some (.lst ((sortI ns).map D.int), η) := by
  unfold sortedD
  dsimp only [seqL]
  rw [ints_map]; rfl
end
section
variable {α : Type} {xs : List α} {x : α} {ds : List D} {d : D}
theorem atI_snoc : atI (xs ++ [x]) (-1) = some x := by rw [atI_last (by simp)]; simp
theorem cutL_snoc_but : cutL (ds ++ [d]) none (some (-1)) = ds := by rw [cutL_but1]; simp
theorem cutL_snoc_last : cutL (ds ++ [d]) (some (-1)) none = [d] := by rw [cutL_last1]; simp
end
theorem pls_int {α : Type} {n : Nat} (f : α → Int) : ∀ l : List α, D.pls n (l.map fun x => .int (f x)) = true
  | [] => rfl
  | x :: l => by
    show (D.pl n (.int (f x)) && D.pls n (l.map fun x => .int (f x))) = true
    rw [pls_int f l]
    cases n <;> rfl
theorem eqD_nilI {α : Type} (f : α → Int) (l : List α) {η : Store} : eqD (.lst (l.map fun x => .int (f x))) (.lst []) η = some (.bl l.isEmpty, η) := by
  have h1 : D.pl 60 (D.vw η (.lst (l.map fun x => .int (f x)))) = true := pls_int f l
  rw [eqD_pl h1 rfl]
  cases l <;> rfl
@[simp] theorem neD_nil {η : Store} : neD (.lst []) (.lst []) η = some (.bl false, η) := by rw [neD_pl (by rfl) (by rfl)]; rfl
@[simp] theorem eqD_nil {η : Store} : eqD (.lst []) (.lst []) η = some (.bl true, η) := by rw [eqD_pl (by rfl) (by rfl)]; rfl
/-- the last one that passes, by places -/
theorem filter_places {α : Type} (d : α) (l : List α) (p : α → Bool) : l.filter p = ((List.range l.length).filter fun i => p (l.getD i d)).map fun i => l.getD i d := by
  have e : l = (List.range l.length).map fun i => l.getD i d := by
    refine List.ext_getElem (by simp) fun i h1 h2 => ?_
    simp [h1]
  conv => lhs; rw [e]
  rw [List.filter_map]; rfl
end Dn
/-! Dn part 17: three names at once. -/
namespace Dn
open PySem PySem.Spec PyProof.Rows L2
section
variable {X : Cx} {W : WX} {K : PySem.W.Frag} {w w1 w' : Wd} {σ : L2.St} {H H1 H' : Hp} {ρ : Env} {η η1 : Store} {fa fb fc f : FE} {a b c e : Expr} {es : List Expr} {pos p : Pos} {fA : FA}
/-- a, b, c = x, y, z: three different local names -/
def sPar3 (i j l : Nat) (fa fb fc : FE) : FS := fun ρ η => (fa ρ η).bindS ρ fun x η => (fb ρ η).bindS ρ fun y η => (fc ρ η).bindS ρ fun z η => .nx (((ρ.set i (some x)).set j (some y)).set l (some z)) η
theorem ds_par3 (i j l : Nat) {x y z : Str} {px py pz pt : Pos} {kt k2 pt2} (hc : X.calm = true) (hN : X.N.Nodup) (ha : DE X W a fa) (hb : DE X W b fb) (hcc : DE X W c fc) (hi : X.N[i]? = some x := by rfl) (hj : X.N[j]? = some y := by rfl) (hl : X.N[l]? = some z := by rfl)
    (hij : i ≠ j := by decide) (hil : i ≠ l := by decide) (hjl : j ≠ l := by decide)
    (hx : X.env.scope.names.lookup x = some .local := by rfl) (hy : X.env.scope.names.lookup y = some .local := by rfl) (hz : X.env.scope.names.lookup z = some .local := by rfl)
    (hw : swappedStores [.Tuple [.Name x px, .Name y py, .Name z pz] kt pt] (.Tuple [a, b, c] k2 pt2) X.env = pure (some [x, y, z]) := by rfl)
    (hs : swapsWithSole [.Tuple [.Name x px, .Name y py, .Name z pz] kt pt] (.Tuple [a, b, c] k2 pt2) pos.line X.env = pure false := by rfl)
    (h1 : starEach [a, b, c] X.env = (false, eval a X.env) :: starEach [b, c] X.env := by rfl) (h2 : starEach [b, c] X.env = (false, eval b X.env) :: starEach [c] X.env := by rfl) (h3 : starEach [c] X.env = (false, eval c X.env) :: starEach [] X.env := by rfl) :
    DS X W (.Assign [.Tuple [.Name x px, .Name y py, .Name z pz] kt pt] (.Tuple [a, b, c] k2 pt2) pos) (sPar3 i j l fa fb fc) :=
  PS.imp (ps_par3 hc hN hi hj hl hij hil hjl hx hy hz (pa_cons ha (pa_cons hb (pa_cons hcc pa_nil h3) h2) h1) hw hs) fun E σ H ⟨w, ρ, η, rel, p⟩ => by
    refine (rdE_thenS rel p).imp fun v H1 ⟨w1, d, η1, e, rel1, rv, p1⟩ => ?_
    refine (rdE_thenS rel1 p1).imp fun u H2 ⟨w2, d2, η2, e2, rel2, rv2, p2⟩ => ?_
    refine (rdE_thenS rel2 p2).imp fun u3 H3 ⟨w3, d3, η3, e3, rel3, rv3, p3⟩ => ?_
    exact ⟨_, _, _, rfl, p3 _ w3 H3 .refl ⟨((rel3.env.set ((rv.ext e2).ext e3)).set (rv2.ext e3)).set rv3, rel3.heap⟩⟩
variable {P : Po}
/-- a new list that is given back, told by value from then on -/
theorem trim_lst {F : FF} {ds xs : List D} {η l : Store} (h : F ds η = .ok (.obj η.length) (η ++ .lst xs :: l)) (hl : D.lows η.length xs = true) : trimF F ds η = .ok (.lst xs) η := by
  have hk : keepS η (η ++ .lst xs :: l) := keepS_app _ _
  have hc : cutD η.length (η ++ .lst xs :: l) (.obj η.length) = some (.lst xs) := by
    unfold cutD
    dsimp only
    rw [if_neg (by omega)]
    have e : (η ++ O.lst xs :: l)[η.length]? = some (.lst xs) := by simp
    rw [e]
    exact if_pos hl
  unfold trimF
  rw [h]
  unfold trimR
  dsimp only
  rw [if_pos hk, hc]
  simp
@[simp] theorem w_par3 {i j l : Nat} : wpS (sPar3 i j l fa fb fc ρ η) P ↔ wpR (fa ρ η) (fun x η => wpR (fb ρ η) (fun y η => wpR (fc ρ η) (fun z η => P.nx (((ρ.set i (some x)).set j (some y)).set l (some z)) η) (fun x η => P.ex x ρ η)) (fun x η => P.ex x ρ η)) (fun x η => P.ex x ρ η) := by
  unfold sPar3; rw [wpS_bindS]; simp only [wpS_bindS, w_nxS]
end
end Dn
/-! Dn part 18: op= at names. -/
namespace Dn
open PySem PySem.Spec PyProof.Rows L2
theorem room65 {k : Nat} {A : Around} (r : Room k A) : A.units + 65 < cLine := by have := r.un; omega
section
variable {X : Cx} {W : WX} {K : PySem.W.Frag} {w w1 w' : Wd} {H H1 H' : Hp} {η η1 : Store} {f : FE} {ρ : Env}
def augAdd : G2 := fun x y η => match x with
  | .int i => (match y with
    | .int j => some (.int (i + j), η)
    | _ => none)
  | .str a => (match y with
    | .str b => if a.length + b.length ≤ sizeLine then some (.str (a ++ b), η) else none
    | _ => none)
  | _ => none
theorem iopD_add2 : OpR X (inplaceOp .Add) (rd2 X.K augAdd) := op_of (OpR.or iop_add iop_add_str) fun hr r1 r2 h p => by
  unfold augAdd at h
  split at h
  · split at h
    · cases h; cases r1; cases r2
      exact .inl ⟨_, _, rfl, rfl, val_of p hr (.int _)⟩
    · cases h
  · split at h
    · split at h
      · rename_i hl
        cases h; cases r1; cases r2
        exact .inr ⟨_, _, rfl, rfl, hl, val_of p hr (.str _)⟩
      · cases h
    · cases h
  · cases h
/-- xs += ys of a list that may change -/
def augExt : G2 := fun x y η => match objL x η, lstOf y η with
  | some (k, xs), some ys => if xs.length + ys.length ≤ sizeLine then some (.obj k, η.set k (.lst (xs ++ ys))) else none
  | _, _ => none
theorem iopD_ext : OpR X (inplaceOp .Add) (rd2 X.K augExt) := op_of iop_ext fun hr r1 r2 h p => by
  unfold augExt at h
  split at h
  · rename_i k xs ys eo el
    split at h
    · rename_i hl
      cases h
      obtain ⟨a, zs, rfl, ha, eH, rz⟩ := objL_ok hr r1 eo
      obtain ⟨b, us, rfl, eB, ru⟩ := lstOf_ok hr r2 el
      exact ⟨a, b, zs, us, rfl, rfl, eH, eB, by rw [rz.length, ru.length]; exact hl, wr_of p hr ha (rz.append ru) (.obj ha)⟩
    · cases h
  · cases h
/-! ### the greatest, the least of a list -/
def maxI : List Int → Int
  | [] => 0
  | x :: r => r.foldl max x
def minI : List Int → Int
  | [] => 0
  | x :: r => r.foldl min x
theorem foldl_max : ∀ (r : List Int) (x : Int), r.foldl max x ∈ x :: r ∧ ∀ y ∈ x :: r, y ≤ r.foldl max x
  | [], x => by simp
  | z :: r, x => by
    obtain ⟨h1, h2⟩ := foldl_max r (max x z)
    refine ⟨?_, fun y hy => ?_⟩
    · show r.foldl max (max x z) ∈ _
      rcases List.mem_cons.mp h1 with h | h
      · rw [h]
        rcases Int.le_total x z with q | q
        · rw [Int.max_eq_right q]; simp
        · rw [Int.max_eq_left q]; simp
      · simp [h]
    · show y ≤ r.foldl max (max x z)
      have hm := h2 (max x z) List.mem_cons_self
      rcases List.mem_cons.mp hy with rfl | hy
      · exact Int.le_trans (Int.le_max_left _ _) hm
      · rcases List.mem_cons.mp hy with rfl | hy
        · exact Int.le_trans (Int.le_max_right _ _) hm
        · exact h2 y (List.mem_cons_of_mem _ hy)
theorem foldl_min : ∀ (r : List Int) (x : Int), r.foldl min x ∈ x :: r ∧ ∀ y ∈ x :: r, r.foldl min x ≤ y
  | [], x => by simp
  | z :: r, x => by
    obtain ⟨h1, h2⟩ := foldl_min r (min x z)
    refine ⟨?_, fun y hy => ?_⟩
    · show r.foldl min (min x z) ∈ _
      rcases List.mem_cons.mp h1 with h | h
      · rw [h]
        rcases Int.le_total x z with q | q
        · rw [Int.min_eq_left q]; simp
        · rw [Int.min_eq_right q]; simp
      · simp [h]
    · show r.foldl min (min x z) ≤ y
      have hm := h2 (min x z) List.mem_cons_self
      rcases List.mem_cons.mp hy with rfl | hy
      · exact Int.le_trans hm (Int.min_le_left _ _)
      · rcases List.mem_cons.mp hy with rfl | hy
        · exact Int.le_trans hm (Int.min_le_right _ _)
        · exact h2 y (List.mem_cons_of_mem _ hy)
theorem maxI_of {ns : List Int} {m : Int} (h : m ∈ ns) (hm : ∀ y, y ∈ ns → y ≤ m) : m = maxI ns := by
  match ns, h, hm with
  | x :: r, h, hm =>
    obtain ⟨h1, h2⟩ := foldl_max r x
    exact Int.le_antisymm (h2 m h) (hm _ h1)
theorem minI_of {ns : List Int} {m : Int} (h : m ∈ ns) (hm : ∀ y, y ∈ ns → m ≤ y) : m = minI ns := by
  match ns, h, hm with
  | x :: r, h, hm =>
    obtain ⟨h1, h2⟩ := foldl_min r x
    exact Int.le_antisymm (hm _ h1) (h2 m h)
def maxLD : GL := fun ds η => match ds with
  | [d] => match seqL d η with
    | some xs => (match intsOf xs with
      | some (n :: ns) => some (.int (maxI (n :: ns)), η)
      | _ => none)
    | none => none
  | _ => none
def minLD : GL := fun ds η => match ds with
  | [d] => match seqL d η with
    | some xs => (match intsOf xs with
      | some (n :: ns) => some (.int (minI (n :: ns)), η)
      | _ => none)
    | none => none
  | _ => none
theorem callD_maxL (hc : X.calm = true) : CallR X (.builtin "max") (rdL X.K maxLD) := call_of (cr_max hc) fun hr r h p => by
  unfold maxLD at h
  split at h
  · cases r with | cons r1 rr => ?_
    cases rr
    split at h
    · rename_i e
      split at h
      · rename_i n ns en
        cases h
        obtain ⟨a, ys, rfl, s, q⟩ := seqL_ok hr r1 e
        refine ⟨a, n :: ns, rfl, by rw [← ints_ok q en]; exact s, by simp, fun m hm hy => ?_⟩
        rw [maxI_of hm hy]
        exact val_of p hr (.int _)
      · cases h
    · cases h
  · cases h
theorem callD_minL (hc : X.calm = true) : CallR X (.builtin "min") (rdL X.K minLD) := call_of (cr_min hc) fun hr r h p => by
  unfold minLD at h
  split at h
  · cases r with | cons r1 rr => ?_
    cases rr
    split at h
    · rename_i e
      split at h
      · rename_i n ns en
        cases h
        obtain ⟨a, ys, rfl, s, q⟩ := seqL_ok hr r1 e
        refine ⟨a, n :: ns, rfl, by rw [← ints_ok q en]; exact s, by simp, fun m hm hy => ?_⟩
        rw [minI_of hm hy]
        exact val_of p hr (.int _)
      · cases h
    · cases h
  · cases h
/-! ### in, not in: items of a list, by value -/
def inD : G2 := fun x y η => match pd x η, pd y η with
  | some p, some (.list qs) => if plainQ p ∧ plainQ (.list qs) then some (.bl (qs.any fun z => PyData.eqv z p), η) else none
  | _, _ => none
def notInD : G2 := fun x y η => match pd x η, pd y η with
  | some p, some (.list qs) => if plainQ p ∧ plainQ (.list qs) then some (.bl (!qs.any fun z => PyData.eqv z p), η) else none
  | _, _ => none
theorem opD_in (hu : X.A.units + 65 < cLine) : OpR X (compareOp .In) (rd2 X.K inD) := op_of (op_inD hu) fun hr r1 r2 h p => by
  unfold inD at h
  split at h
  · rename_i q qs e1 e2
    split at h
    · rename_i hp
      cases h
      exact ⟨q, qs, pd_ok hr r1 e1, pd_ok hr r2 e2, hp.1, hp.2, val_of p hr (.bl _)⟩
    · cases h
  · cases h
theorem opD_notIn (hu : X.A.units + 65 < cLine) : OpR X (compareOp .NotIn) (rd2 X.K notInD) := op_of (op_notInD hu) fun hr r1 r2 h p => by
  unfold notInD at h
  split at h
  · rename_i q qs e1 e2
    split at h
    · rename_i hp
      cases h
      exact ⟨q, qs, pd_ok hr r1 e1, pd_ok hr r2 e2, hp.1, hp.2, val_of p hr (.bl _)⟩
    · cases h
  · cases h
variable {P : Po}
@[simp] theorem w_aug {i : Nat} {g : G2} : wpS (sAug i g f ρ η) P ↔ wpO (ρ[i]?) fun o => wpO o fun x => wpR (f ρ η) (fun y η => wpO (g x y η) fun p => P.nx (ρ.set i (some p.1)) p.2) (fun x η => P.ex x ρ η) := by
  unfold sAug
  cases e : ρ[i]? with
  | none => exact Iff.rfl
  | some o =>
    cases o with
    | none => exact Iff.rfl
    | some x =>
      dsimp only [wpO_some]
      rw [wpS_bindS]
      refine wpR_congr fun y η => ?_
      rw [wpS_bindS]
      cases g x y η <;> exact Iff.rfl
end
end Dn
/-! Dn part 19: empty dicts, lists turned round. -/
namespace Dn
open PySem PySem.Spec PyProof.Rows L2
section
variable {X : Cx} {W : WX} {K : PySem.W.Frag} {w w1 w' : Wd} {H H1 H' : Hp} {η η1 : Store} {f : FE} {ρ : Env} {e : Expr} {pos : Pos}
def mkDK : FE := fun _ η => .ok (.obj η.length) (η ++ [.dK []])
def mkDT : FE := fun _ η => .ok (.obj η.length) (η ++ [.dT []])
theorem de_dK : DE X W (.Dict [] [] pos) mkDK := PE.imp pe_dnewK fun σ H Q ⟨w, ρ, η, rel, p⟩ => fun q hq =>
  p _ _ _ (Ext.more hq rel.heap) (rel.heap.more hq ⟨[], upd_same, repF_nil⟩) (.obj (rel.heap.ixO q))
theorem de_dT : DE X W (.Dict [] [] pos) mkDT := PE.imp pe_dnewT fun σ H Q ⟨w, ρ, η, rel, p⟩ => fun q hq =>
  p _ _ _ (Ext.more hq rel.heap) (rel.heap.more hq ⟨[], upd_same, repF_nil⟩) (.obj (rel.heap.ixO q))
/-- xs[::-1] -/
def revD : G1 := fun x η => match seqL x η with
  | some xs => some (.lst xs.reverse, η)
  | none => none
theorem de_rev {k : Nat} {p1 p2 p3 : Pos} (he : DE X W e f) : DE X W (.Subscript e (.Slice none none (some (.UnaryOp .USub (.Constant (.int 1) k p1) p2)) p3) pos) (e1 revD f) :=
  PE.imp (pe_revL he) fun σ H Q ⟨w, ρ, η, rel, p⟩ => by
    refine (rdE_then rel p).imp fun v H1 ⟨w1, d, η1, e, rel1, rv, p1⟩ => ?_
    cases eg : revD d η1 with
    | none => rw [eg] at p1; exact p1.elim
    | some zη =>
      obtain ⟨z, η'⟩ := zη
      rw [eg] at p1
      unfold revD at eg
      split at eg
      · rename_i xs es
        cases eg
        obtain ⟨a, ys, rfl, s, q⟩ := seqL_ok rel1.heap rv es
        exact ⟨a, ys, rfl, s, fun p hp => lst_of (fun v w' H' e' hr' r' => p1 v w' H' e' hr' r') rel1.heap q.reverse hp⟩
      · cases eg
variable {P : Po} {QD : D → Store → Prop} {E : Ex → Store → Prop}
@[simp] theorem w_mkDK : wpR (mkDK ρ η) QD E ↔ QD (.obj η.length) (η ++ [.dK []]) := Iff.rfl
@[simp] theorem w_mkDT : wpR (mkDT ρ η) QD E ↔ QD (.obj η.length) (η ++ [.dT []]) := Iff.rfl
@[simp] theorem revD_lst {xs : List D} : revD (.lst xs) η = some (.lst xs.reverse, η) := rfl
end
end Dn
/-! Dn part 20: sorted(set(a list of ints)), len(set(..)). -/
namespace Dn
open PySem PySem.Spec PyProof.Rows L2
/-- a set object, just made -/
abbrev setNew (w : World) : Obj := { cls := .type "set", dict := none, data := .set #[] 0 (.fresh 0 0 (!w.params.followText "set-order")) }
section
variable {P : Program} {w : World} {A : Around} {E : Value → Shared → Prop} {s : Shared}
/-- what a filled set leaves -/
def Filled (w : World) (s : Shared) (ns : List Int) (s' : Shared) : Prop := ∃ (h' : Heap) (tk c : Nat), s' = { s with heap := h', toks := tk } ∧ SetR w h' s.heap.objs.size (fun j => decide (j ∈ ns)) c ∧ c ≤ ns.length ∧ ∀ b o, s.heap.get? b = some o → h'.get? b = some o
set_option maxHeartbeats 3200000 in
theorem set_init_lst {l : Addr} {items : Array Value} (ns : List Int) (hh : A.handled = none) (hl : s.heap.IsList l items) (hit : IntsAre items.toList ns) (hb : ns.length + 1 < scanBound) :
    codeAny (model P w) A (.call (.builtin "set.__init__") ⟨[.ref s.heap.objs.size, .ref l], []⟩) (wants (fun r s₂ => r = .none ∧ Filled w s ns s₂) E) { s with heap := s.heap.push (setNew w) } := by
  have hn : items.size = ns.length := by
    have q := IntsAre.length hit
    rwa [Array.length_toList] at q
  have hS : (s.heap.push (setNew w)).get? s.heap.objs.size = some (setNew w) := Heap.get?_push_size _ rfl
  refine codeAny_call_builtin F.called_set.init.plain F.entry_set_init (check_set_init_1 ⟨_, hS, rfl⟩ ?_)
  have hl1 : (s.heap.push (setNew w)).IsList l items := hl.push _
  obtain ⟨ol, hol, hcl, nl, hdl⟩ := hl
  obtain ⟨ocls, odict, odata, oslots⟩ := ol
  simp only at hcl hdl
  subst hcl hdl
  have hol' := Heap.get?_push_of_some (setNew w) hol
  have hlS : l < s.heap.objs.size := Heap.lt_size hol
  have hsls := F.sub_list_set
  have hslf := F.sub_list_frozenset
  have hne : (Value.type "list" == Value.type "dict") = false := by decide
  have hT : Shared.TypeIs { s with heap := s.heap.push (setNew w) } (.ref s.heap.objs.size) "set" := ⟨_, hS, rfl⟩
  unfold Builtin.«set.__init__» noKeywords Builtin.Frozenset.updateFrom
  generalize hPI : pyIter = PI
  wp_walk
  subst hPI
  refine wpAny_pyIter_list hl1 ?_
  refine wpAny_bind (wpAny_runValue ?_)
  have hz1 : (s.heap.push (setNew w)).objs.size = s.heap.objs.size + 1 := Heap.size_push ..
  have hneI : l ≠ (s.heap.push (setNew w)).objs.size := by rw [hz1]; exact Nat.ne_of_lt (Nat.lt_succ_of_lt hlS)
  have hSf : s.heap.objs.size ∉ [(s.heap.push (setNew w)).objs.size, l] := by
    rw [hz1]
    intro q
    rcases List.mem_cons.mp q with q | q
    · exact absurd q (Nat.ne_of_lt (Nat.lt_succ_self _))
    · have : s.heap.objs.size = l := by simpa using q
      exact absurd this (Nat.ne_of_gt hlS)
  have hval : ∀ (i : Nat) (v : Value), items[i]? = some v → ∃ k t, ns[i]? = some k ∧ v = .int k t := fun i v hv => by
    have hi : i < ns.length := by rw [← hn]; exact (Array.getElem?_eq_some_iff.mp hv).1
    obtain ⟨t, e⟩ := PyProof.Rows.IntsAre.int_at hit i v (by rw [Array.getElem?_toList]; exact hv)
    exact ⟨ns[i], t, List.getElem?_eq_getElem hi, by rw [e, List.getD_eq_getElem?_getD, List.getElem?_eq_getElem hi]; rfl⟩
  have hset : ((s.heap.push (setNew w)).push { cls := .type "list_iterator", data := .fields #[.ref l, .int 0 0] }).get? s.heap.objs.size = some (setNew w) := Heap.get?_push_of_some _ hS
  refine set_update_ints ((Walks.list (by simp [hh]) _ l hneI items).toS) s.heap.objs.size hSf ns hn hb hval items.size 0 _ (by omega) (Nat.zero_le _)
    ⟨⟨_, Heap.get?_push_size _ rfl, rfl, rfl⟩, hl1.push _⟩ ⟨0, Nat.le_refl 0, setR_new_at hset⟩ ?_
  rintro ⟨h', g2, d', tk', os'⟩ c' hm hc' hS'
  obtain rfl : g2 = s.gens := hm.gens
  obtain rfl : d' = s.drawn := hm.drawn
  obtain rfl : os' = s.os := hm.os
  refine wpAny_pure ?_
  rw [hn] at hc'
  refine wpAny_pure ⟨rfl, h', tk', c', rfl, hS', hc', fun b o e => ?_⟩
  have hb0 : b < s.heap.objs.size := Heap.lt_size e
  refine hm.heap b o (fun q => ?_) (Heap.get?_push_of_some _ (Heap.get?_push_of_some _ e))
  rcases List.mem_cons.mp q with q | q
  · exact absurd q (Nat.ne_of_lt hb0)
  · have : b = (s.heap.push (setNew w)).objs.size := by simpa using q
    rw [hz1] at this
    exact absurd this (Nat.ne_of_lt (Nat.lt_succ_of_lt hb0))
set_option maxHeartbeats 3200000 in
theorem call_set_lst {l : Addr} {items : Array Value} (ns : List Int) {Q : Value → Shared → Prop} (hh : A.handled = none) (hl : s.heap.IsList l items) (hit : IntsAre items.toList ns) (hb : ns.length + 1 < scanBound)
    (h : ∀ s', Filled w s ns s' → Q (.ref s.heap.objs.size) s') : wpAny (model P w) A (call (.type "set") [.ref l]) Q E s := by
  obtain ⟨c, tl, hmro⟩ := F.called_set.mro
  have hmade := F.called_set.made
  have hsub := F.called_set.sub
  refine wpAny_call (codeAny_of_tree ?_)
  show wpAny _ _ (callAny (.type "set") _) _ _ _
  refine wpAny_pure ⟨Code.quiet_builtin _ (by decide +kernel), codeAny_builtin F.entry_type_call ?_⟩
  rw [Around.under_plain (weight_type_call_type "set" [.ref l] []) rfl]
  have h1 := F.called_set.notType
  have h2 := F.called_set.canCreate
  have hct := F.typeCall_set_1 (.ref l)
  repeat (any_goals (first | assumption | wp_step))
  refine codeAny_mono (code_set_led1 (.ref l) (E := E) (Q₁ := fun obj s₁ => obj = .ref s.heap.objs.size ∧ s₁ = { s with heap := s.heap.push (setNew w) }) ⟨rfl, rfl⟩) fun r s₁ hr => ?_
  match r, hr with
  | .error e, hr => exact hr
  | .ok (.ret obj), hr =>
    obtain ⟨rfl, rfl⟩ := hr
    have hT : Shared.TypeIs { s with heap := s.heap.push (setNew w) } (.ref s.heap.objs.size) "set" := ⟨_, Heap.get?_push_size _ rfl, rfl⟩
    have hli := F.called_set.init.lookup
    have hbi := F.called_set.init.bind (.ref s.heap.objs.size)
    repeat (any_goals (first | assumption | wp_step))
    refine codeAny_mono (set_init_lst (E := E) ns hh hl hit hb) fun r₂ s₂ hr₂ => ?_
    match r₂, hr₂ with
    | .error e, hr₂ => exact hr₂
    | .ok (.ret r), hr₂ =>
      obtain ⟨rfl, hf⟩ := hr₂
      repeat (any_goals (first | assumption | wp_step))
      exact h _ hf
end
/-! ### sorted(set(xs)), xs a list of ints -/
section
variable {X : Cx} {W : WX} {K : PySem.W.Frag} {w w1 w' : Wd} {H H1 H' : Hp} {η η1 : Store} {f : FE} {ρ : Env} {a : Expr} {pos p p2 q : Pos}
theorem ddI_pos : ∀ (l m : List Int), (∀ k, k ∈ l ↔ k ∈ m) → l.Pairwise (· < ·) → l = sortU m := fun l m h hl => by
  have h1 : rise (sortU m) = true := rise_sortU
  have h2 := rise_iff.mp h1
  have hp : l.Perm (sortU m) := (List.perm_ext_iff_of_nodup (List.nodup_iff_pairwise_ne.mpr (hl.imp fun h => Int.ne_of_lt h)) (List.nodup_iff_pairwise_ne.mpr (h2.imp fun h => Int.ne_of_lt h))).mpr fun k => by rw [h k, mem_sortU]
  exact sorted_eq hp (hl.imp fun h => Int.le_of_lt h) (h2.imp fun h => Int.le_of_lt h)
def sortSet (f : FE) : FE := fun ρ η => (f ρ η).bind fun d η => match seqL d η with
  | some xs => (match intsOf xs with
    | some ns => if ns.length < 64 then .ok (.lst ((sortU ns).map D.int)) η else .no
    | none => .no)
  | none => .no
theorem w_sortSet {QD : D → Store → Prop} {E : Ex → Store → Prop} : wpR (sortSet f ρ η) QD E ↔ wpR (f ρ η) (fun d η => wpO (seqL d η) fun xs => wpO (intsOf xs) fun ns => ns.length < 64 ∧ QD (.lst ((sortU ns).map D.int)) η) E := by
  unfold sortSet; rw [wpR_bind]
  refine wpR_congr fun d η => ?_
  cases h : seqL d η with
  | none => exact Iff.rfl
  | some xs =>
    rw [wpO_some]
    dsimp only
    cases h2 : intsOf xs with
    | none => exact Iff.rfl
    | some ns =>
      rw [wpO_some]
      dsimp only
      by_cases h3 : ns.length < 64
      · rw [if_pos h3]; simp [h3]
      · rw [if_neg h3]; simp [h3]
theorem de_sortSet (hc : X.calm = true) (hm : X.mg "sorted" = none) (hm2 : X.mg "set" = none) (ha : DE X W a f) (hg : Gl X "sorted" := by rfl) (hg2 : Gl X "set" := by rfl)
    (na : starEach [a] X.env = (false, eval a X.env) :: starEach [] X.env := by rfl) : DE X W (.Call (.Name "sorted" p) [.Call (.Name "set" p2) [a] [] q] [] pos) (sortSet f) := by
  refine ⟨fun pins s σ H Q I ⟨w, ρ, η, rel, hp⟩ => ?_⟩
  refine Call_ (ld_blt I hg hm PyProof.Rows.boot_sorted ?_)
  refine PyProof.Rows.callWith_builtin1 (PyProof.Rows.args_cons ?_ rfl) rfl rfl
  refine Call_ (ld_blt I hg2 hm2 PyProof.Rows.boot_set ?_)
  refine PyProof.Rows.callWith_type1 (PyProof.Rows.args_cons (thn (ha.run pins s σ H _ I (rdE_then rel hp)) fun v s1 ⟨x, H1, I1, r1, w1, d, η1, e1, rel1, rv, p1⟩ => PyProof.Rows.args_nil ?_) na) na rfl
  split at p1
  case h_2 => exact p1.elim
  rename_i xs es
  split at p1
  case h_2 => exact p1.elim
  rename_i ns en
  split at p1
  case isFalse => exact p1.elim
  rename_i h64
  obtain ⟨l, vs, rfl, hq, rr⟩ := seqL_ok rel1.heap rv es
  cases r1
  have ev := ints_ok rr en
  subst ev
  obtain ⟨its, r, pl, hz⟩ := I1.list hq
  refine call_set_lst ns (I1.ok.hd hc) pl.isList (by simpa using r.ints) (by unfold scanBound; omega) fun s2 ⟨h', tk, c, es2, hR, hcn, hk⟩ => ?_
  subst es2
  refine PyProof.Rows.args_nil ?_
  refine sorted_set hR (I1.ok.hd hc) (by omega) fun s' p out c2 ms k g o hp2 hgp hi hs hmm hll => ?_
  have hms : ms = sortU ns := ddI_pos ms ns (fun k => by rw [hmm k]; simp) hs
  subst hms
  have I2 : Inv X pins σ H1 { s1 with heap := h', toks := tk } := I1.kept fun b o e => hk b o e
  have hlen : ((sortU ns).map V.int).length ≤ sizeLine := by
    have := len_sortU (ns := ns)
    rw [List.length_map]; exact Nat.le_trans (show (sortU ns).length ≤ 64 by omega) (by decide)
  have hn : H1 p = none := I2.hok.fresh hp2
  have J : Inv X pins σ (upd H1 p (.lst ((sortU ns).map V.int))) { s1 with heap := s'.heap, gens := s'.gens, drawn := s'.drawn, toks := s'.toks } :=
    Inv.call (s := { s1 with heap := h', toks := tk }) (ch := []) I2 (Un.laid k hp2 hn) (I2.hok.laid k hp2 ⟨hlen, out.toList, c2, vals_of_ints hi, hgp⟩) (by rw [g]; exact I2.bare) (fun _ z => nomatch z)
  have e : s' = { s1 with heap := s'.heap, gens := s'.gens, drawn := s'.drawn, toks := s'.toks } := by
    cases s'
    cases s1
    cases o
    rfl
  rw [e]
  exact ⟨.ref p, _, J, rfl, lst_of p1 rel1.heap (ints_rep _) hn⟩
end
end Dn
/-! Dn part 21: raise. -/
namespace Dn
open PySem PySem.Spec PyProof.Rows L2
section
variable {X : Cx} {W : WX} {K : PySem.W.Frag} {w w1 w' : Wd} {σ : L2.St} {H H1 H' : Hp} {ρ : Env} {η η1 : Store} {fa fb fc f : FE} {a b c e : Expr} {es : List Expr} {pos p p2 p3 : Pos} {fA : FA} {j : Nat}
/-- what must be known of a class of errors without own __init__ -/
structure ExcK (K : PySem.W.Frag) (mg : Str → Option Value) (x : Str) : Prop where
  g : mg x = some (.ref (He.ga K x))
  ex : PySem.W.excIn K (He.ga K x) He.veBase "ValueError.__new__" = true
  kp : PySem.W.keepIn K (.ref (He.ga K x)) = true
  sb : PySem.W.subIn K (.ref (He.ga K x)) (.type "BaseException") = some true
  ty : PySem.W.typeIn K (.ref (He.ga K x)) = some (.type "type")
theorem excK_of {h : Heap} {mg : Str → Option Value} (X : K.In h) (G : h.Ns mainGlobals mg) {x : Str} (c1 : (He.Fa.glo x).ok K = true) (c2 : (He.Fa.exc x).ok K = true) : ExcK K mg x := by
  obtain ⟨h1, h2, h3, h4⟩ := He.exc_ok c2
  exact ⟨He.glo_ok X G c1, h1, h2, h3, h4⟩
/-- raise x("..") -/
def sRaise (x : Str) : FS := fun ρ η => .exc ⟨x, none⟩ ρ η
theorem ds_raise {x m : Str} (hc : X.calm = true) (tk : L2N.Takes X W) (k : ExcK X.K X.mg x) (hg : Gl X x := by rfl) (hdb : (x == ("__debug__" : Str)) = false := by decide) :
    DS X W (.Raise (some (.Call (.Name x p) [.Constant (.str m) j p2] [] p3)) none pos) (sRaise x) :=
  PS.imp (L2N.ps_raise hc tk (L2N.pmk_own F.excBase_ValueError k.ex k.g k.kp (raises_own k.sb k.ty) hg hdb)) fun E σ H ⟨w, ρ, η, rel, q⟩ => q _ _ σ w H .refl rel ⟨rfl, rfl⟩
variable {P : Po}
@[simp] theorem w_raise {x : Str} : wpS (sRaise x ρ η) P ↔ P.ex ⟨x, none⟩ ρ η := Iff.rfl
end
end Dn
/-! Dn part 22: a comprehension over zip within an except suite. -/
namespace Dn
open PySem PySem.Spec PyProof.Rows L2
section
variable {prog : Program} {w : World} {A : Around} {E : Value → Shared → Prop} {s : Shared}
/-- the handled exception stands there, its context None -/
def HotO (x1 : Addr) (h : Heap) : Prop := ∃ (o : Obj) (vs : Array Value), h.get? x1 = some o ∧ o.data = .fields vs ∧ vs[2]? = some .none
theorem HotO.keep {x1 : Addr} {h h' : Heap} (a : HotO x1 h) (k : ∀ o, h.get? x1 = some o → h'.get? x1 = some o) : HotO x1 h' :=
  let ⟨o, vs, e, d, c⟩ := a
  ⟨o, vs, k o e, d, c⟩
theorem hot_end {it l x1 : Addr} {i : Nat} {items : Array Value} {Q : Value → Shared → Prop} (hh : A.handled = some (.ref x1)) (hx : x1 ≠ it) (ho : HotO x1 s.heap) (hit : s.heap.IsListIter it l i) (hl : s.heap.IsList l items) (hn : items[i]? = none)
    (hE : ∀ h' e, Heap.ExtBut it s.heap h' → (∃ o, h'.get? e = some o ∧ o.cls = .type "StopIteration") → E (.ref e) { s with heap := h' }) : wpAny (model prog w) A (Builtin.SmallTypes.nextOf (.ref it)) Q E s := by
  obtain ⟨oi, hoi, hci, hdi⟩ := id hit
  obtain ⟨ol, hol, _, nl, hdl⟩ := hl
  unfold Builtin.SmallTypes.nextOf
  refine wpAny_bind (wpAny_callSpecial?_slot (name := Str.ofString "__next__") hit.typeIs slot_listiter_next (wpAny_call_entry slot_listiter_next hit.typeIs entry_listiter_next ?_ (args_listiter_next _)))
  show wpAny _ _ (field (.ref it) 0 >>= _) _ _ s
  refine wpAny_bind (wpAny_field hoi hdi (x := .ref l) rfl ?_)
  show wpAny _ _ (if (Value.ref l == Value.none) = true then _ else _) _ _ s
  rw [if_neg (show ¬ ((Value.ref l == Value.none) = true) from Bool.false_ne_true)]
  show wpAny _ _ (field (.ref it) 1 >>= _) _ _ s
  refine wpAny_bind (wpAny_field hoi hdi (x := .int i 0) rfl ?_)
  show wpAny _ _ (seqItems? (.ref l) >>= _) _ _ s
  refine wpAny_bind (wpAny_seqItems hol hdl ?_)
  simp only [Int.toNat_natCast, hn]
  refine wpAny_bind (wpAny_rule (wpAny_bind (wpAny_setField hoi hdi (by simp) ?_)))
  show wpAny _ _ (newExc (.type "StopIteration") [] >>= _) _ _ _
  refine wpAny_bind ?_
  simp only [newExc, newTuple]
  refine wpAny_bind (wpAny_newObj_type ?_ (by size_fits))
  refine wpAny_bind (m := firstArgMember _ _) (wpAny_of_eq (a := Value.none) (by first | rfl | (simp only [firstArgMember]; rfl)) ?_)
  refine wpAny_newObj_type ?_ (by size_fits)
  obtain ⟨o, vs, h1, h2, h3⟩ := ho
  have hxs : x1 < s.heap.objs.size := Heap.lt_size h1
  refine HotX.raiseNew_hot ⟨hh, o, vs, ?_, h2, h3⟩ ?_ (Heap.get?_push_size _ rfl) rfl (by simp; omega) ?_
  · exact Heap.get?_push_of_some _ (Heap.get?_push_of_some _ ((Heap.get?_update_ne _ _ _ _ hx).trans h1))
  · refine Nat.ne_of_lt (Nat.lt_of_lt_of_le hxs ?_)
    rw [Heap.size_push, Heap.size_update]
    exact Nat.le_succ _
  · refine hE _ _ (fun b ob hb e => ?_) ⟨_, Heap.get?_update_self _ (Heap.get?_push_size _ rfl) rfl, rfl⟩
    rw [Heap.get?_update_ne]
    · exact (((Heap.SameBut.update ..).extBut.push _).push _) b ob hb e
    · refine Nat.ne_of_lt (Nat.lt_of_lt_of_le (Heap.lt_size e) ?_)
      rw [Heap.size_push, Heap.size_update]
      exact Nat.le_succ _
theorem draws_hot {x1 : Addr} (hh : A.handled = some (.ref x1)) (it l : Addr) (hne : l ≠ it) (hx : x1 ≠ it) (items : Array Value) :
    Draws prog w A it [it, l, x1] items.size (fun i v => items[i]? = some v) (fun i h => h.IsListIter it l i ∧ h.IsList l items ∧ HotO x1 h) where
  live := fun _ _ st => let ⟨o, ho, _⟩ := st.1; ⟨o, ho⟩
  frame := fun _ _ _ st hk => ⟨st.1.at fun o e => hk it (by simp) o e, st.2.1.at fun o e => hk l (by simp) o e, st.2.2.keep fun o e => hk x1 (by simp) o e⟩
  item := fun i s Q E hi st hQ => by
    refine wpAny_nextOf_list_item st.1 st.2.1 (x := items[i]) (by simp [hi]) fun h' hit' hs' => ?_
    exact hQ _ h' s.toks (by simp [hi]) ⟨hit', st.2.1.extBut hs'.extBut hne, st.2.2.keep fun o e => hs'.extBut x1 o hx e⟩ hs'
  done := fun s Q E st hE => hot_end hh hx st.2.2 st.1 st.2.1 (by simp) hE
theorem hot_tend {it l x1 : Addr} {i : Nat} {items : Array Value} {Q : Option Value → Shared → Prop} (hh : A.handled = some (.ref x1)) (hx : x1 ≠ it) (ho : HotO x1 s.heap) (hit : s.heap.IsTupleIter it l i) (hl : s.heap.IsTuple l items) (hn : items[i]? = none)
    (hQ : ∀ h', Heap.ExtBut it s.heap h' → Q none { s with heap := h' }) : wpAny (model prog w) A (pyNext (.ref it)) Q E s := by
  obtain ⟨oi, hoi, hci, hdi⟩ := id hit
  obtain ⟨ol, hol, _, nl, hdl⟩ := hl
  unfold pyNext
  refine wpAny_bind (wpAny_attempt (wpAny_callSpecial?_slot (name := Str.ofString "__next__") hit.typeIs F.slot_tuple_iterator_next (wpAny_call_entry F.slot_tuple_iterator_next hit.typeIs F.entry_tuple_iterator_next ?_ (F.args_tuple_iterator_next_1 _))))
  show wpAny _ _ (field (.ref it) 0 >>= _) _ _ s
  refine wpAny_bind (wpAny_field hoi hdi (x := .ref l) rfl ?_)
  show wpAny _ _ (if (Value.ref l == Value.none) = true then _ else _) _ _ s
  rw [if_neg (show ¬ ((Value.ref l == Value.none) = true) from Bool.false_ne_true)]
  show wpAny _ _ (field (.ref it) 1 >>= _) _ _ s
  refine wpAny_bind (wpAny_field hoi hdi (x := .int i 0) rfl ?_)
  show wpAny _ _ (seqItems? (.ref l) >>= _) _ _ s
  refine wpAny_bind (wpAny_seqItems hol hdl ?_)
  simp only [Int.toNat_natCast, hn]
  refine wpAny_bind (wpAny_rule (wpAny_bind (wpAny_setField hoi hdi (by simp) ?_)))
  show wpAny _ _ (newExc (.type "StopIteration") [] >>= _) _ _ _
  refine wpAny_bind ?_
  simp only [newExc, newTuple]
  refine wpAny_bind (wpAny_newObj_type ?_ (by size_fits))
  refine wpAny_bind (m := firstArgMember _ _) (wpAny_of_eq (a := Value.none) (by first | rfl | (simp only [firstArgMember]; rfl)) ?_)
  refine wpAny_newObj_type ?_ (by size_fits)
  obtain ⟨o, vs, h1, h2, h3⟩ := ho
  have hxs : x1 < s.heap.objs.size := Heap.lt_size h1
  refine HotX.raiseNew_hot ⟨hh, o, vs, ?_, h2, h3⟩ ?_ (Heap.get?_push_size _ rfl) rfl (by simp; omega) ?_
  · exact Heap.get?_push_of_some _ (Heap.get?_push_of_some _ ((Heap.get?_update_ne _ _ _ _ hx).trans h1))
  · refine Nat.ne_of_lt (Nat.lt_of_lt_of_le hxs ?_)
    rw [Heap.size_push, Heap.size_update]
    exact Nat.le_succ _
  · refine wpAny_bind (wpAny_isInstance (T := "StopIteration") (b := true) ⟨_, Heap.get?_update_self _ (Heap.get?_push_size _ rfl) rfl, rfl⟩ isSubtype_stop ?_)
    refine wpAny_pure (hQ _ fun b ob hb e => ?_)
    rw [Heap.get?_update_ne]
    · exact (((Heap.SameBut.update ..).extBut.push _).push _) b ob hb e
    · refine Nat.ne_of_lt (Nat.lt_of_lt_of_le (Heap.lt_size e) ?_)
      rw [Heap.size_push, Heap.size_update]
      exact Nat.le_succ _
theorem hot_items {t x1 : Addr} {items : Array Value} {Q : List Value → Shared → Prop} (hh : A.handled = some (.ref x1)) (ho : HotO x1 s.heap) (ht : s.heap.IsTuple t items)
    (hQ : ∀ h', Heap.ExtBut s.heap.objs.size s.heap h' → Q items.toList { s with heap := h' }) : wpAny (model prog w) A (unpackItems (.ref t) items.size none) Q E s := by
  have hlt : t ≠ s.heap.objs.size := by obtain ⟨o, e, _⟩ := ht; exact Nat.ne_of_lt (Heap.lt_size e)
  have hx : x1 ≠ s.heap.objs.size := by obtain ⟨o, _, e, _⟩ := ho; exact Nat.ne_of_lt (Heap.lt_size e)
  have hall : List.take items.size (List.drop 0 items.toList) = items.toList := by
    rw [List.drop_zero]; exact List.take_of_length_le (by simp)
  unfold unpackItems
  refine wpAny_bind ?_
  unfold notIterableAtAll
  refine wpAny_bind (wpAny_specialOf ht.typeIs F.slot_tuple_iter.lookup (wpAny_pure ?_))
  simp only [Bool.false_eq_true, if_false]
  refine wpAny_bind (wpAny_holding (wpAny_pyIter_tuple ht ?_))
  refine wpAny_bind (wpAny_holding (wpAny_draw_tuple hlt items.size 0 _ _ ⟨_, Heap.get?_push_size _ rfl, rfl, rfl⟩ (ht.push _) (by omega) fun h₁ hit₁ hs₁ => ?_))
  rw [hall, if_neg (by simp)]
  refine wpAny_bind (wpAny_holding (hot_tend hh hx ((ho.keep fun o e => Heap.get?_push_of_some _ e).keep fun o e => hs₁.extBut x1 o hx e) hit₁ ((ht.push _).extBut hs₁.extBut hlt) (by simp) fun h₂ he₂ => ?_))
  simp only [Option.isSome_none, Bool.false_eq_true, if_false]
  exact wpAny_pure (hQ h₂ fun b o hb e => he₂ b o hb (hs₁.extBut b o hb (Heap.get?_push_of_some _ e)))
theorem hot_assign {env : PySem.Env} {elts : List Expr} {k : Nat} {pos : Pos} {t x1 : Addr} {items : Array Value} {Q : Unit → Shared → Prop} (hh : A.handled = some (.ref x1)) (ho : HotO x1 s.heap) (ht : s.heap.IsTuple t items)
    (hn : (assignEach elts env).length = items.size) (hstar : (assignEach elts env).findIdx? (·.1) = none)
    (h : ∀ h', Heap.ExtBut s.heap.objs.size s.heap h' → wpAny (model prog w) A (assignInOrder ((assignEach elts env).map (·.2)) items.toList) Q E { s with heap := h' }) : wpAny (model prog w) A (assign (.Tuple elts k pos) env (.ref t)) Q E s := by
  rw [arm_assign_Tuple]
  refine wpAny_bind (wpAny_standAt ?_)
  unfold unpack
  rw [hn, hstar]
  exact wpAny_bind (wpAny_holding (hot_items hh ho ht h))
end
end Dn
/-! Dn part 23: [word for word, good in zip(words, marks) if good] within an except suite. -/
namespace Dn
open PySem PySem.Spec PyProof.Rows L2
def pick : List Str → List Bool → List Str
  | w :: ws, b :: bs => if b = true then w :: pick ws bs else pick ws bs
  | _, _ => []
theorem pick_take : ∀ (ws : List Str) (bs : List Bool) (i : Nat) (h1 : i < ws.length) (h2 : i < bs.length), pick (ws.take (i + 1)) (bs.take (i + 1)) = pick (ws.take i) (bs.take i) ++ (if bs[i] = true then [ws[i]] else [])
  | [], _, _, h, _ => by simp at h
  | _ :: _, [], _, _, h => by simp at h
  | w :: ws, b :: bs, 0, _, _ => by
    show (if b = true then w :: pick (ws.take 0) (bs.take 0) else pick (ws.take 0) (bs.take 0)) = [] ++ _
    cases b <;> simp [pick]
  | w :: ws, b :: bs, i + 1, h1, h2 => by
    have ih := pick_take ws bs i (by simpa using h1) (by simpa using h2)
    show (if b = true then w :: pick (ws.take (i + 1)) (bs.take (i + 1)) else pick (ws.take (i + 1)) (bs.take (i + 1))) = (if b = true then w :: pick (ws.take i) (bs.take i) else pick (ws.take i) (bs.take i)) ++ _
    rw [ih]
    cases b <;> simp
theorem vals_get {vs : List V} {us : List Value} {i : Nat} {v : V} (r : Vals vs us) (h : vs[i]? = some v) : ∃ u, us[i]? = some u ∧ RelV v u := by
  induction r generalizing i with
  | nil => simp at h
  | cons a b ih =>
    cases i with
    | zero => simp at h; subst h; exact ⟨_, rfl, a⟩
    | succ i => exact ih (by simpa using h)
theorem vals_snoc {vs : List V} {us : List Value} {v : V} {u : Value} (r : Vals vs us) (h : RelV v u) : Vals (vs ++ [v]) (us ++ [u]) := by
  induction r with
  | nil => exact .cons h .nil
  | cons a b ih => exact .cons a ih
def rHZ (Q : VK) : List V → Hp → Prop := fun us H => ∃ (a1 a2 : Addr) (ws : List Str) (bs : List Bool), us = [.ref a1, .ref a2] ∧ H a1 = some (.lst (ws.map V.str)) ∧ H a2 = some (.lst (bs.map V.bl)) ∧ ws.length ≤ 1000 ∧
  ∀ p, H p = none → Q (.ref p) (upd H p (.lst ((pick ws bs).map V.str)))
def tHZ (t : TA) : TE := fun σ H Q => t σ H (rHZ Q)
theorem pick_len : ∀ (ws : List Str) (bs : List Bool), (pick ws bs).length ≤ ws.length
  | [], _ => by simp [pick]
  | w :: ws, [] => by simp [pick]
  | w :: ws, b :: bs => by
    have := pick_len ws bs
    cases b <;> simp [pick] <;> omega
theorem pick_min : ∀ (ws : List Str) (bs : List Bool) (n : Nat), min ws.length bs.length ≤ n → pick (ws.take n) (bs.take n) = pick ws bs
  | [], _, _, _ => by simp [pick]
  | w :: ws, [], n, _ => by cases n <;> simp [pick]
  | w :: ws, b :: bs, 0, h => by simp at h
  | w :: ws, b :: bs, n + 1, h => by
    have ih := pick_min ws bs n (by simp at h; omega)
    show (if b = true then w :: pick (ws.take n) (bs.take n) else pick (ws.take n) (bs.take n)) = if b = true then w :: pick ws bs else pick ws bs
    rw [ih]
theorem hot_off {N C D x1 l1 l2 : Nat} {b : Nat} (hb : b < N ∨ b = C) (hC : N + 5 ≤ C) (hD : N + 5 ≤ D) (h : D ≠ C) : ¬ (b = D ∨ b = N + 4 ∨ b = N + 3 ∨ b = N ∨ b = N + 1) := by omega
theorem hot_ne {N C b : Nat} (hb : b < N + 5) (hC : N + 5 ≤ C) : b ≠ C := by omega
theorem hot_lt {N l1 l2 x1 b : Nat} (h1 : l1 < N) (h2 : l2 < N) (h3 : x1 < N) (hb : b = N + 4 ∨ b = N + 2 ∨ b = N + 3 ∨ b = N ∨ b = l1 ∨ b = x1 ∨ b = N + 1 ∨ b = l2 ∨ b = x1) : b < N + 5 := by omega
section
variable {X : Cx} {a : Addr} {oe : Obj} {pn : List (Addr × Obj)} {e1 e2 : Expr} {t : TA} {wn gn : Str} {pe pa pb pt zp zpos pos gp : Pos} {kk : Nat} {scope : Scope}
set_option maxHeartbeats 4000000 in
theorem pe_hotzip (hctx : ∃ vs : Array Value, oe.data = .fields vs ∧ vs[2]? = some .none) (hm : X.mg "zip" = none) (hg : Gl X "zip") (ha : PA (X.suite a ((a, oe) :: pn)) [e1, e2] t)
    (hfree : ∀ y ∈ scope.names, y.2 ≠ .free) (hcell : ∀ y ∈ scope.names, y.2 ≠ .cell) (hkind : scope.kind = .function) (hnames : ∀ y ∈ scope.names, y.2 = .local → scope.names.lookup y.1 = some .local)
    (hw : scope.names.lookup wn = some .local) (hgn : scope.names.lookup gn = some .local) (hne : wn ≠ gn) (hdw : (wn == ("__debug__" : Str)) = false) (hdg : (gn == ("__debug__" : Str)) = false)
    (hs2 : starEach [e1, e2] X.env = (false, eval e1 X.env) :: starEach [e2] X.env) (hpl : (backTo zpos (starEach [e2] X.env)).any (·.1) = false) :
    PE (X.suite a ((a, oe) :: pn)) (.ListComp (.Name wn pe) [⟨.Tuple [.Name wn pa, .Name gn pb] kk pt, .Call (.Name "zip" zp) [e1, e2] [] zpos, [.Name gn gp], 0⟩] scope pos) (tHZ t) := by
  refine ⟨fun pins s σ H Q I h => ?_⟩
  have hclos := closure_ok (scope := scope) (env := X.env) fun y hy e => absurd e (hfree y hy)
  generalize hcl : cloFrom X.env.cells scope.names [] = cl at hclos
  refine ListComp_goes hclos hcell hkind hnames ?_ (fun _ => rfl)
  refine Call_ (ld_blt I hg hm PyProof.Rows.boot_zip (PyProof.Rows.callWith_type1 (thn (ha.run zpos pins s σ H _ I h) fun us s1 hh => ?_) hs2 hpl))
  obtain ⟨vs, H1, I1, r1, a1, a2, ws, bs, ev, q1, q2, hz, q⟩ := hh
  subst ev
  cases r1 with | cons ra rr => ?_
  cases rr with | cons rb rr => ?_
  cases rr; cases ra; cases rb
  obtain ⟨its, v1, p1, _⟩ := I1.list (SqL.of q1)
  obtain ⟨its2, v2, p2, _⟩ := I1.list (SqL.of q2)
  have hl1 := p1.isList
  have hl2 := p2.isList
  have lt1 : a1 < s1.heap.objs.size := by obtain ⟨o, e, _⟩ := hl1; exact Heap.lt_size e
  have lt2 : a2 < s1.heap.objs.size := by obtain ⟨o, e, _⟩ := hl2; exact Heap.lt_size e
  obtain ⟨hget, hna, _⟩ := I1.pin (a, oe) (List.mem_append.mpr (.inl List.mem_cons_self))
  have lt3 : a < s1.heap.objs.size := Heap.lt_size hget
  have hot : HotO a s1.heap := let ⟨vs, d, c⟩ := hctx; ⟨oe, vs, hget, d, c⟩
  have hh : (X.suite a ((a, oe) :: pn)).A.handled = some (.ref a) := rfl
  refine zip_begins2 (begins_list a1 its.toArray) (begins_list a2 its2.toArray) hl1 hl2 fun h₁ hZ hTI hTO hi1 hi2 hz5 hk₁ => wpAny_pyIter_zip hZ ?_
  have e1l : its.length = ws.length := by rw [← v1.length, List.length_map]
  have e2l : its2.length = bs.length := by rw [← v2.length, List.length_map]
  refine ⟨_, _, _, _, _, _, rfl, Goes.zip2 (zip_sep2 (N := s1.heap.objs.size) (fp1 := [a1, a]) (fp2 := [a2, a]) (fun b hb => ?_) (fun b hb => ?_))
      (draws_hot (A := (X.suite a ((a, oe) :: pn)).A.in1) hh _ a1 (Nat.ne_of_lt lt1) (Nat.ne_of_lt lt3) its.toArray) (draws_hot (A := (X.suite a ((a, oe) :: pn)).A.in1) hh _ a2 (Nat.ne_of_lt (Nat.lt_succ_of_lt lt2)) (Nat.ne_of_lt (Nat.lt_succ_of_lt lt3)) its2.toArray),
    ?_, ⟨hZ, hTI, ⟨_, _, hTO⟩, ⟨⟨_, hi1, rfl, rfl⟩, hl1.at fun o e => hk₁ _ o e, hot.keep fun o e => hk₁ _ o e⟩, ⟨⟨_, hi2, rfl, rfl⟩, hl2.at fun o e => hk₁ _ o e, hot.keep fun o e => hk₁ _ o e⟩⟩, ?_, fun Dd C s₃ hB => ?_⟩
  · rcases List.mem_cons.mp hb with e | hb
    · rw [e]; exact lt1
    · rw [List.mem_singleton.mp hb]; exact lt3
  · rcases List.mem_cons.mp hb with e | hb
    · rw [e]; exact lt2
    · rw [List.mem_singleton.mp hb]; exact lt3
  · refine Nat.le_trans (Nat.min_le_left ..) ?_
    have : its.toArray.size = ws.length := by simpa using e1l
    rw [this]
    exact Nat.le_trans hz (by decide)
  · intro b hb
    show b < h₁.objs.size
    rw [hz5]
    exact hot_lt lt1 lt2 lt3 (by simpa using hb)
  · obtain ⟨⟨h₃, tk₃, rfl⟩, old, nD, nC, hDC, hnm⟩ := hB
    have nC' : (s1.heap.objs.size + 5 : Nat) ≤ C := by rw [← hz5]; exact nC
    have nD' : (s1.heap.objs.size + 5 : Nat) ≤ Dd := by rw [← hz5]; exact nD
    have hDC' : (Dd : Nat) ≠ C := hDC
    have kinds : ∀ y, scope.names.lookup y = some .local → (compEnvC scope cl C X.env).kindOf y = some .local := fun y hy => lookup_relabel_local hy
    have hp : ((compEnvC scope cl C X.env).scope.kind == .class || ((compEnvC scope cl C X.env).scope.kind == .module && (compEnvC scope cl C X.env).locals != (compEnvC scope cl C X.env).globals)) = false := by
      show (scope.kind == .class || (scope.kind == .module && _)) = false
      rw [hkind]; rfl
    refine ⟨fun i ys s₁ => ∃ h' tk m, s₁ = { s1 with heap := h', toks := tk } ∧ h'.Ns C m ∧ Vals ((pick (ws.take i) (bs.take i)).map V.str) ys ∧ ∀ b o, s1.heap.get? b = some o → h'.get? b = some o, ⟨h₃, tk₃, _, rfl, hnm, .nil, fun b o e => old b o (hk₁ b o e)⟩, ?_, ?_, ?_⟩
    · rintro i ys s₁ h' tk ⟨h₄, tk₄, m, rfl, n₄, e₄, k₄⟩ hk' _
      have off : ∀ b : Addr, (b < s1.heap.objs.size ∨ b = C) → b ∉ Dd :: [s1.heap.objs.size + 4, s1.heap.objs.size + 3, s1.heap.objs.size, s1.heap.objs.size + 1] := fun b hb hm => hot_off (x1 := 0) (l1 := 0) (l2 := 0) hb nC' nD' hDC' (by simpa using hm)
      exact ⟨h', tk, m, rfl, n₄.at' fun o e => hk' _ o (off _ (.inr rfl)) e, e₄, fun b o e => hk' b o (off _ (.inl (Heap.lt_size e))) (k₄ b o e)⟩
    · rintro i v ys s₁ hi ⟨T, x, y, rfl, hx, hy, hT⟩ st ⟨h₄, tk₄, m, rfl, n₄, e₄, k₄⟩ hpl
      have hi1' : i < ws.length := by rw [← e1l]; have := Nat.lt_of_lt_of_le hi (Nat.min_le_left ..); simpa using this
      have hi2' : i < bs.length := by rw [← e2l]; have := Nat.lt_of_lt_of_le hi (Nat.min_le_right ..); simpa using this
      obtain ⟨x', ex, rx⟩ := vals_get v1 (i := i) (v := .str ws[i]) (by simp [hi1'])
      obtain ⟨y', ey, ry⟩ := vals_get v2 (i := i) (v := .bl bs[i]) (by simp [hi2'])
      have ex' : x = x' := by
        have z : its[i]? = some x := by simpa using hx
        rw [ex] at z; exact (Option.some.inj z).symm
      have ey' : y = y' := by
        have z : its2[i]? = some y := by simpa using hy
        rw [ey] at z; exact (Option.some.inj z).symm
      subst ex' ey'
      have ry' : y = .bool bs[i] := ry
      have hCs : C < h₄.objs.size := by obtain ⟨o, _, _, ho, _⟩ := n₄; exact Heap.lt_size ho
      have hotn : HotO a h₄ := hot.keep fun o e => k₄ _ o e
      refine hot_assign hh hotn hT rfl rfl fun h₅ hs₅ => ?_
      have up₅ : ∀ b o, h₄.get? b = some o → h₅.get? b = some o := fun b o e => hs₅ b o (Nat.ne_of_lt (Heap.lt_size e)) e
      show wpAny _ _ (assignInOrder [assign (.Name wn pa) _, assign (.Name gn pb) _] [x, y]) _ _ _
      refine wpAny_assignInOrder_more (wpAny_assign_Name (wpAny_storeName_local (kinds _ hw) (n₄.at' fun o e => up₅ _ o e) (fun h₆ n₆ s₆ => ?_) hp))
      refine wpAny_assignInOrder_more (wpAny_assign_Name (wpAny_storeName_local (kinds _ hgn) n₆ (fun h₇ n₇ s₇ => wpAny_assignInOrder_none ?_) hp))
      have up₇ : ∀ b o, b ≠ C → h₄.get? b = some o → h₇.get? b = some o := fun b o hb e => s₇.extBut _ _ hb (s₆.extBut _ _ hb (up₅ b o e))
      have offC : ∀ b : Addr, b < s1.heap.objs.size + 5 → b ≠ C := fun b hb => hot_ne hb nC'
      have k₇ : ∀ b o, s1.heap.get? b = some o → h₇.get? b = some o := fun b o e => up₇ b o (offC b (Nat.lt_add_right 5 (Heap.lt_size e))) (k₄ b o e)
      have st₇ : ∀ {i : Nat}, (IsZip h₄ (s1.heap.objs.size + 4) (s1.heap.objs.size + 2) (s1.heap.objs.size + 3) .none ∧ IsTupOf2 h₄ (s1.heap.objs.size + 2) (.ref s1.heap.objs.size) (.ref (s1.heap.objs.size + 1)) ∧ (∃ b1 b2, IsTupOf2 h₄ (s1.heap.objs.size + 3) b1 b2) ∧
          (h₄.IsListIter s1.heap.objs.size a1 i ∧ h₄.IsList a1 its.toArray ∧ HotO a h₄) ∧ (h₄.IsListIter (s1.heap.objs.size + 1) a2 i ∧ h₄.IsList a2 its2.toArray ∧ HotO a h₄)) →
          (IsZip h₇ (s1.heap.objs.size + 4) (s1.heap.objs.size + 2) (s1.heap.objs.size + 3) .none ∧ IsTupOf2 h₇ (s1.heap.objs.size + 2) (.ref s1.heap.objs.size) (.ref (s1.heap.objs.size + 1)) ∧ (∃ b1 b2, IsTupOf2 h₇ (s1.heap.objs.size + 3) b1 b2) ∧
          (h₇.IsListIter s1.heap.objs.size a1 i ∧ h₇.IsList a1 its.toArray ∧ HotO a h₇) ∧ (h₇.IsListIter (s1.heap.objs.size + 1) a2 i ∧ h₇.IsList a2 its2.toArray ∧ HotO a h₇)) := by
        rintro i ⟨z1, z2, ⟨b1, b2, z3⟩, ⟨z4, z5, z8⟩, ⟨z6, z7, _⟩⟩
        have lC : ∀ {k : Nat}, k < 5 → s1.heap.objs.size + k ≠ C := fun {k} hk => offC _ (Nat.add_lt_add_left hk _)
        exact ⟨up₇ _ _ (lC (by decide)) z1, up₇ _ _ (lC (by decide)) z2, ⟨b1, b2, up₇ _ _ (lC (by decide)) z3⟩, ⟨z4.at fun o e => up₇ _ o (lC (k := 0) (by decide)) e, z5.at fun o e => up₇ _ o (offC _ (Nat.lt_add_right 5 lt1)) e, z8.keep fun o e => up₇ _ o (offC _ (Nat.lt_add_right 5 lt3)) e⟩,
          ⟨z6.at fun o e => up₇ _ o (lC (by decide)) e, z7.at fun o e => up₇ _ o (offC _ (Nat.lt_add_right 5 lt2)) e, z8.keep fun o e => up₇ _ o (offC _ (Nat.lt_add_right 5 lt3)) e⟩⟩
      have hpk := pick_take ws bs i hi1' hi2'
      refine wpAny_tests_one (isTrue_plain (wpAny_Name (wpAny_loadName_local hkind (kinds _ hgn) n₇ (v := y) (by simp) ?_) hdg))
      rw [ry']
      refine wpAny_pure ?_
      cases hb : bs[i] with
      | false =>
        rw [if_neg (by simp)]
        rw [hb] at hpk
        refine ⟨⟨h₇, _, _, rfl, n₇, ?_, k₇⟩, st₇ st, hpl.at fun o e => up₇ _ o hDC e⟩
        rw [hpk]; simpa using e₄
      | true =>
        rw [if_pos rfl]
        rw [hb] at hpk
        refine wpAny_Name (wpAny_loadName_local hkind (kinds _ hw) n₇ (v := x) (by simp [hne]) ?_) hdw
        refine ⟨⟨h₇, _, _, rfl, n₇, ?_, k₇⟩, st₇ st, hpl.at fun o e => up₇ _ o hDC e⟩
        rw [hpk, if_pos rfl, List.map_append]
        exact vals_snoc e₄ rx
    · rintro ys s₁ ⟨h₄, tk₄, m, rfl, n₄, e₄, k₄⟩ hpl
      refine ⟨m, n₄, fun h' hs' => ?_⟩
      have nD'' : s1.heap.objs.size ≤ Dd := Nat.le_trans (Nat.le_add_right _ 5) nD'
      have hfr : H1 Dd = none := I1.hok.fresh nD''
      have hall : pick (ws.take (min its.toArray.size its2.toArray.size)) (bs.take (min its.toArray.size its2.toArray.size)) = pick ws bs := by
        refine pick_min ws bs _ ?_
        rw [List.size_toArray, List.size_toArray, e1l, e2l]
        exact Nat.le_refl _
      rw [hall] at e₄
      have kk' : ∀ b o, s1.heap.get? b = some o → h'.get? b = some o := fun b o e => hs'.extBut b o (hot_ne (Nat.lt_add_right 5 (Heap.lt_size e)) nC') (k₄ b o e)
      have J := I1.laid (o := .lst ((pick ws bs).map V.str)) (t' := tk₄) kk' nD'' ⟨(by
        rw [List.length_map]
        exact Nat.le_trans (pick_len ws bs) (Nat.le_trans hz (by decide))), ys, let ⟨n, e⟩ := hpl; ⟨n, e₄, hs'.extBut _ _ hDC e⟩⟩
      exact ⟨.ref Dd, _, J, rfl, q Dd hfr⟩
end
end Dn
/-! Dn part 24: f(lambda: ..), f a def that calls it under try. -/
namespace Dn
open PySem PySem.Spec PyProof.Rows L2
/-- what may leave a lambda's body -/
abbrev lamXe (X : Cx) (A : Around) (outer : List PySem.Env) (s : Shared) (H : Hp) (E : XK) (scope : Scope) (f c' : Addr) : Value → Shared → Prop := fun e s' =>
  wpAny (model X.prog X.w) (A.deeper (LamX.lamEnv X scope s.heap.objs.size f c')) (leaving (LamX.lamEnv X scope s.heap.objs.size f c') e) (fun _ s'' => L2N.CX X.prog X.w outer H s E e s'') (fun e' s'' => L2N.CX X.prog X.w outer H s E e' s'') s'
/-- the context of a lambda's body -/
abbrev lamC (X : Cx) (A : Around) (outer : List PySem.Env) (s : Shared) (H : Hp) (E : XK) (scope : Scope) (f c' : Addr) : Cx := (LamX.lamCx X A outer s H E scope f c').tr [] (lamXe X A outer s H E scope f c')
theorem lam_takes {X : Cx} {A : Around} {outer : List PySem.Env} {s : Shared} {H : Hp} {E : XK} {scope : Scope} {f c' : Addr} : L2N.Takes (lamC X A outer s H E scope f c') (fun c d _ H => E c d H) :=
  L2N.takes_of rfl rfl rfl rfl
section
variable {X : Cx} {pins : List (Addr × Obj)} {σ : L2.St} {H : Hp} {s : Shared}
abbrev lamO (X : Cx) (params : Arguments) (body : Expr) (scope : Scope) (pm : Value) (c' : Addr) (ctv : Value) : Obj := PySem.W.kla_obj "<lambda>" (X.env.qual ++ "<lambda>") params body scope (cloFrom X.env.cells scope.names []) pm c' ctv
abbrev lamF (X : Cx) (params : Arguments) (body : Expr) (scope : Scope) (pm : Value) (c' : Addr) (ctv : Value) : FuncData := PySem.W.kla_fn "<lambda>" (X.env.qual ++ "<lambda>") params body scope (cloFrom X.env.cells scope.names []) pm (.ref c') ctv
theorem act_ok {Eg : XK} {Ng : List Str} {qg : Str} {sg : Scope} {g f c' : Addr} {cdg pm ctv : Value} {params : Arguments} {body : Expr} {scope : Scope} {k i : Nat} {a : Str} {pn : List (Addr × Obj)} {xe : Value → Shared → Prop} {W : WX} {E : XK} {tb : TE} {p1 p2 : Pos}
    (I : Inv X pins σ H s) (L : LamX.LamS X.env.scope scope) (hf : s.heap.get? f = some (lamO X params body scope pm c' ctv)) (hfn : H f = none) (hfr : f ∉ frs X.stack) (hbind : bindArgs (lamF X params body scope pm c' ctv) ⟨[], []⟩ = pure [])
    (tk : L2N.Takes ((cxOf C8.CX0 X.prog X.w X.K X.mg X.base Ng qg sg g cdg X.A X.stack s H Eg).tr pn xe) W) (hW : ∀ cls d σ' H', E cls d H' → W cls d σ' H') (hr : Room (k + 1) (X.A.deeper (envOfC qg sg s.heap.objs.size g cdg)))
    (hbody : ∀ (A : Around) (outer : List PySem.Env) (s : Shared) (H : Hp), Room k (A.deeper (LamX.lamEnv X scope s.heap.objs.size f c')) → PE (lamC X A outer s H E scope f c') body tb) (hN : Ng[i]? = some a) (hv : Vis sg a) (hd : (a == ("__debug__" : Str)) = false) (hcd : (a == ("__classdict__" : Str)) = false) :
    PE ((cxOf C8.CX0 X.prog X.w X.K X.mg X.base Ng qg sg g cdg X.A X.stack s H Eg).tr pn xe) (.Call (.Name a p1) [] [] p2) (fun σZ HZ Q => σZ[i]? = some (some (.ref f)) ∧ HZ c' = some (LamX.CodeO c' (X.env.qual ++ "<lambda>")) ∧ tb σ HZ Q) := by
  refine ⟨fun pinsZ sZ σZ HZ Q IZ ⟨hs, hc, ht⟩ => ?_⟩
  refine wpAny_Call_Name_kw (thn ((pe_var (pos := p1) (i := i) hN hv hd hcd).run pinsZ sZ σZ HZ (fun v H1 => v = .ref f ∧ H1 = HZ) IZ ⟨.ref f, hs, rfl, rfl⟩) fun u s1 ⟨v, H1, I1, r1, ev, eH⟩ => ?_)
  subst ev eH
  obtain rfl : u = Value.ref f := r1
  have of1 : s1.heap.get? f = some (lamO X params body scope pm c' ctv) := I1.base.keep f _ hf hfn hfr (fun z => by cases z)
  refine PySem.W.callWith_F0 ⟨_, _, _, _, of1⟩ ?_
  obtain ⟨⟨oc, vs, t, hoc, hdc, hvc⟩, _, _⟩ := I1.hok c' _ hc
  have run : codeAny (model X.prog X.w) (X.A.deeper (envOfC qg sg s.heap.objs.size g cdg)) (.call (.ref f) ⟨[], []⟩) (CR (L2N.CX X.prog X.w) (envOfC qg sg s.heap.objs.size g cdg :: X.stack) X.prog X.w H1 s1 Q E) s1 := by
    refine PySem.W.kla_callFunE hr.depth of1 rfl L.co L.gen rfl ⟨c', oc, vs, t, rfl, hoc, hdc, hvc⟩ ?_
    rw [hbind]
    refine wpAny_pure (wpAny_newFunctionEnv (fun y hy => (L.own y hy).2) (fun y hy => absurd hy (by simp)) (fun h₁ hns hsb => ⟨I1.nolimit.fresh _ hsb, ?_⟩) L.kind)
    have kp : ∀ b o, s1.heap.get? b = some o → h₁.get? b = some o := fun b o e => hsb.extBut b o (Nat.ne_of_lt (Heap.lt_size e)) (Heap.get?_push_of_some _ e)
    have J0 := LamX.lam_start2 (A := X.A.deeper (envOfC qg sg s.heap.objs.size g cdg)) (outer := envOfC qg sg s.heap.objs.size g cdg :: X.stack) (E := E) (f := f) (c' := c') (tk := s1.toks + ([] : List (Str × Value)).length) I L I1.env0 hr.hd I1.base hns kp
    have J := J0.toTry (lamXe X (X.A.deeper (envOfC qg sg s.heap.objs.size g cdg)) (envOfC qg sg s.heap.objs.size g cdg :: X.stack) s1 H1 E scope f c')
    refine PySem.W.kla_codeExpr (wpAny_mono ((hbody _ _ s1 H1 (hr.deeper _)).run [] _ _ H1 Q J ht) (fun v s' hq => ?_) fun e s' hq => hq)
    obtain ⟨w', H', J', rv, q⟩ := hq
    exact ⟨w', H', J'.os, J'.bare, J'.base, J'.hok, rv, q⟩
  refine wpAny_call (codeAny_mono run fun r s' hq => ?_)
  cases r with
  | error e => exact L2N.passes_call tk hW pinsZ σZ H1 s1 e s' I1 hq
  | ok fl =>
    cases fl with
    | ret u => exact I1.after hq
    | next => exact False.elim hq
    | brk => exact False.elim hq
    | cont => exact False.elim hq
/-- a def that takes a lambda: what it comes to by what the lambda comes to -/
def Giv (X : Cx) (Ng : List Str) (x : Str) (sg : Scope) (g : Addr) (cdg : Value) (bg : List Stmt) (a : Str) (q : Str) (TT : (XK → Hp → VK → Prop) → Hp → VK → Prop) : Prop :=
  ∀ (f c' : Addr) (s : Shared) (H : Hp) (Q : VK) (tl : XK → Hp → VK → Prop), Room 1 (X.A.deeper (envOfC x sg s.heap.objs.size g cdg)) →
    (∀ (W : WX) (pn : List (Addr × Obj)) (xe : Value → Shared → Prop) (E : XK) (p1 p2 : Pos), L2N.Takes ((cxOf C8.CX0 X.prog X.w X.K X.mg X.base Ng x sg g cdg X.A X.stack s H C8.E0).tr pn xe) W → (∀ cls d σ' H', E cls d H' → W cls d σ' H') →
      PE ((cxOf C8.CX0 X.prog X.w X.K X.mg X.base Ng x sg g cdg X.A X.stack s H C8.E0).tr pn xe) (.Call (.Name a p1) [] [] p2) (fun σZ HZ Q => σZ[0]? = some (some (.ref f)) ∧ HZ c' = some (LamX.CodeO c' q) ∧ tl E HZ Q)) →
    H c' = some (LamX.CodeO c' q) → TT tl H Q →
    ∃ t, PSs (cxOf C8.CX0 X.prog X.w X.K X.mg X.base Ng x sg g cdg X.A X.stack s H C8.E0).nox bg t ∧ t { nx := fun _ H' => Q .non H', rt := Q } (L2.start Ng [.ref f]) H
end
end Dn
/-! Dn part 25: split and join; what stands in an except suite. -/
namespace Dn
open PySem PySem.Spec PyProof.Rows L2
section
variable {X : Cx} {W : WX} {K : PySem.W.Frag} {w w1 w' : Wd} {σ : L2.St} {H H1 H' : Hp} {ρ : Env} {η η1 η' : Store} {fa fb fc f : FE} {fA : FA}
def strsOf : List D → Option (List Str)
  | [] => some []
  | .str x :: r => (strsOf r).map (x :: ·)
  | _ :: _ => none
theorem strs_ok : ∀ {vs : List V} {ds : List D} {xs : List Str}, RepVs K w H vs ds → strsOf ds = some xs → vs = xs.map V.str ∧ ds = xs.map D.str
  | _, _, _, .nil, h => by cases h; exact ⟨rfl, rfl⟩
  | _, _, _, .cons (d := d) (ds := ds) r rs, h => by
    cases d with
    | str x =>
      have h' : (strsOf ds).map (x :: ·) = some _ := h
      cases e : strsOf ds with
      | none => rw [e] at h'; cases h'
      | some ys =>
        rw [e] at h'; cases h'
        obtain ⟨e1, e2⟩ := strs_ok rs e
        cases r
        rw [e1, e2]; exact ⟨rfl, rfl⟩
    | _ => cases h
theorem strs_map : ∀ xs : List Str, strsOf (xs.map D.str) = some xs
  | [] => rfl
  | x :: xs => by
    show (strsOf (xs.map D.str)).map (x :: ·) = _
    rw [strs_map xs]; rfl
theorem strs_rep : ∀ (xs : List Str), RepVs K w H (xs.map V.str) (xs.map D.str)
  | [] => .nil
  | x :: xs => .cons (.str x) (strs_rep xs)
def splitD : D → GL := fun d ds η => match d, ds with
  | .str a, [.str b] => if (b.length == 0) = false ∧ a.length + 2 ≤ sizeLine then some (.lst ((Txt.split a b).map .str), η) else none
  | _, _ => none
theorem mtD_split : MtR X "str.split" (rdM X.K splitD) := mt_of (id := "str.split") mt_split fun {x xs H Q w η d ds z η'} hr q r h p => by
  unfold splitD at h
  split at h
  · rename_i a b
    split at h
    · rename_i hz
      cases h; cases q
      cases r with | cons r1 r2 => ?_
      cases r2; cases r1
      exact ⟨_, _, rfl, rfl, hz.1, hz.2, fun q hq => lst_of p hr (strs_rep _) hq⟩
    · cases h
  · cases h
def joinD : D → GL := fun d ds η => match d, ds with
  | .str a, [x] => (match seqL x η with
    | some xs => (match strsOf xs with
      | some ys => if (ys.map (·.length)).sum + ys.length * a.length ≤ 16777216 then some (.str (Txt.join a ys), η) else none
      | none => none)
    | none => none)
  | _, _ => none
theorem mtD_join : MtR X "str.join" (rdM X.K joinD) := mt_of (id := "str.join") mt_join fun {x xs H Q w η d ds z η'} hr q r h p => by
  unfold joinD at h
  split at h
  · rename_i a x
    split at h
    · rename_i ys es
      split at h
      · rename_i zs ez
        split at h
        · rename_i hz
          cases h; cases q
          cases r with | cons r1 r2 => ?_
          cases r2
          obtain ⟨b, us, rfl, s, ru⟩ := seqL_ok hr r1 es
          obtain ⟨e1, _⟩ := strs_ok ru ez
          subst e1
          exact ⟨_, _, _, rfl, rfl, .inl s, hz, val_of p hr (.str _)⟩
        · cases h
      · cases h
    · cases h
  · cases h
/-! ### in an except suite -/
/-- isinstance(error, c), the answer known -/
def isA (a : Addr) (b : Bool) : G1 := fun d η => match d with
  | .adr x => if x = a then some (.bl b, η) else none
  | _ => none
@[simp] theorem isA_adr {a : Addr} {b : Bool} : isA a b (.adr a) η = some (.bl b, η) := by unfold isA; exact if_pos rfl
/-- what the classes say -/
def excCB (K : PySem.W.Frag) (x : Str) : Bool := decide (PySem.W.findIn K (.ref (He.ga K x)) "__getattribute__" = some (some (.builtin "BaseException.__getattribute__"))) && (decide (PySem.W.findIn K (.ref (He.ga K x)) "__getattr__" = some none) &&
  (decide (PySem.W.subIn K (.ref (He.ga K x)) (.type "BaseException") = some true) && (PySem.W.hasDictIn K (He.ga K x) && (decide (PySem.W.findIn K (.ref (He.ga K x)) "__class__" = some (some (.builtin "object.__class__"))) &&
  (decide (PySem.W.specialIn K (.builtin "object.__class__") "__get__" = some (some (.builtin "getset_descriptor.__get__"))) && (decide (PySem.W.takesIn K (.builtin "object.__class__") = some true) && decide (PySem.W.mroIn K (He.ga K x) (.type "object") = some true)))))))
theorem excC_of {x : Str} (h : excCB K x = true) : ExcC K (He.ga K x) := by
  unfold excCB at h
  simp only [Bool.and_eq_true, decide_eq_true_eq] at h
  obtain ⟨h1, h2, h3, h4, h5, h6, h7, h8⟩ := h
  exact ⟨h1, h2, h3, h4, h5, h6, h7, h8⟩
def kitB (K : PySem.W.Frag) (x c : Str) (b : Bool) : Bool := decide (PySem.W.kitOne K (.ref (He.ga K x)) (.ref (He.ga K c)) = some b)
variable {a : Addr} {oe : Obj} {pn : List (Addr × Obj)} {pos p pe pc : Pos} {i : Nat}
theorem de_isE {x c en : Str} {b : Bool} (C : ExcC X.K (He.ga X.K x)) (hz : Zc (.ref (He.ga X.K x)) none oe) (hf : ∃ vs, oe.data = .fields vs) (hk : kitB X.K x c b = true) (hm : X.mg "isinstance" = none) (hc : X.mg c = some (.ref (He.ga X.K c)))
    (he : DE (X.suite a ((a, oe) :: pn)) W (.Name en pe) (gv i)) (hg : Gl X "isinstance" := by rfl) (hgc : Gl X c := by rfl) (hdc : (c == ("__debug__" : Str)) = false := by decide)
    (h1 : starEach [.Name en pe, .Name c pc] X.env = (false, eval (.Name en pe) X.env) :: starEach [.Name c pc] X.env := by rfl) (h2 : starEach [.Name c pc] X.env = (false, eval (.Name c pc) X.env) :: starEach [] X.env := by rfl)
    (hpl : (backTo pos (starEach [.Name c pc] X.env)).any (·.1) = false := by rfl) :
    DE (X.suite a ((a, oe) :: pn)) W (.Call (.Name "isinstance" p) [.Name en pe, .Name c pc] [] pos) (e1 (isA a b) (gv i)) := by
  have ha : DA (X.suite a ((a, oe) :: pn)) W [.Name en pe, .Name c pc] (aCons (gv i) (aCons (cst (.gl c)) aNil)) := da_cons he (da_cons (de_gl (X := X.suite a ((a, oe) :: pn)) hc hgc hdc) da_nil h2) h1
  refine PE.imp (pe_callB (X := X.suite a ((a, oe) :: pn)) (call_isE C hz hf) hg hm (by rfl) ha (by decide) (by decide) h1 hpl) fun σ H Q ⟨w, ρ, η, rel, q⟩ => ⟨w, ρ, η, rel, ?_⟩
  unfold e1 at q
  unfold aCons gv cst aNil
  unfold gv at q
  cases e : ρ[i]? with
  | none => rw [e] at q; exact q.elim
  | some o =>
    cases o with
    | none => rw [e] at q; exact q.elim
    | some d =>
      rw [e] at q
      cases d with
      | adr y =>
        by_cases hy : y = a
        · subst hy
          intro vs w' H' ex hr rv
          cases rv with | cons r1 rr => ?_
          cases rr with | cons r2 rr => ?_
          cases rr; cases r1; cases r2
          have q' : Post X.K (RepV X.K) w H Q (fun c d H' => W c d σ H') (liftO (isA y b (.adr y) η)) := q
          rw [isA_adr] at q'
          exact ⟨_, _, b, rfl, fun u hu => hu, of_decide_eq_true hk, q' _ w' H' ex hr (.bl b)⟩
        · have q' : Post X.K (RepV X.K) w H Q (fun c d H' => W c d σ H') (liftO (isA a b (.adr y) η)) := q
          have e0 : isA a b (.adr y) η = none := by unfold isA; exact if_neg hy
          rw [e0] at q'
          exact q'.elim
      | _ => exact (show False from q).elim
/-- [word for word, good in zip(words, marks) if good] -/
def hz (fA : FA) : FE := fun ρ η => (fA ρ η).bind fun ds η => match ds with
  | [x, y] => (match lstOf x η, lstOf y η with
    | some xs, some ys => (match strsOf xs, boolsOf ys with
      | some ws, some bs => if ws.length ≤ 1000 then .ok (.lst ((pick ws bs).map .str)) η else .no
      | _, _ => .no)
    | _, _ => .no)
  | _ => .no
theorem hz_reads {Q : VK} (h : rdE K W (hz fA) σ H Q) : tHZ (rdA K W fA) σ H Q := by
  obtain ⟨w, ρ, η, rel, q⟩ := h
  obtain ⟨w, ρ, η, rel, q⟩ := rdA_then rel q
  refine ⟨w, ρ, η, rel, q.imp fun vs H1 ⟨w1, ds, η1, ex, rel1, rv, p1⟩ => ?_⟩
  split at p1
  case h_2 => exact p1.elim
  rename_i x y
  split at p1
  case h_2 => exact p1.elim
  rename_i xs ys ex1 ex2
  split at p1
  case h_2 => exact p1.elim
  rename_i ws bs es eb
  split at p1
  case isFalse => exact p1.elim
  rename_i hl
  cases rv with | cons rv1 rr => ?_
  cases rr with | cons rv2 rr => ?_
  cases rr
  obtain ⟨a1, us, rfl, h1, ru⟩ := lstOf_ok rel1.heap rv1 ex1
  obtain ⟨a2, us2, rfl, h2, ru2⟩ := lstOf_ok rel1.heap rv2 ex2
  obtain ⟨e3, _⟩ := strs_ok ru es
  have e4 := bools_ok ru2 eb
  subst e3 e4
  exact ⟨a1, a2, ws, bs, rfl, h1, h2, hl, fun p hp => lst_of p1 rel1.heap (strs_rep _) hp⟩
variable {e1' e2' : Expr} {wn gn : Str} {p1 p2 p3 p4 p5 p6 p7 : Pos} {kk : Nat} {scope : Scope}
theorem de_hz (hctx : ∃ vs : Array Value, oe.data = .fields vs ∧ vs[2]? = some .none) (hm : X.mg "zip" = none) (ha : DA (X.suite a ((a, oe) :: pn)) W [e1', e2'] fA)
    (hsc : (scope.names.all fun y => !decide (y.2 = .free) && !decide (y.2 = .cell) && (!decide (y.2 = .local) || decide (scope.names.lookup y.1 = some .local))) = true := by decide) (hkind : scope.kind = .function := by rfl)
    (hw : scope.names.lookup wn = some .local := by rfl) (hgn : scope.names.lookup gn = some .local := by rfl) (hne : wn ≠ gn := by decide) (hdw : (wn == ("__debug__" : Str)) = false := by decide) (hdg : (gn == ("__debug__" : Str)) = false := by decide)
    (hg : Gl X "zip" := by rfl) (hs2 : starEach [e1', e2'] X.env = (false, eval e1' X.env) :: starEach [e2'] X.env := by rfl) (hpl : (backTo p5 (starEach [e2'] X.env)).any (·.1) = false := by rfl) :
    DE (X.suite a ((a, oe) :: pn)) W (.ListComp (.Name wn p1) [⟨.Tuple [.Name wn p2, .Name gn p3] kk p4, .Call (.Name "zip" p6) [e1', e2'] [] p5, [.Name gn p7], 0⟩] scope pos) (hz fA) := by
  have hsc' : ∀ y ∈ scope.names, y.2 ≠ .free ∧ y.2 ≠ .cell ∧ (y.2 = .local → scope.names.lookup y.1 = some .local) := fun y hy => by
    have h := List.all_eq_true.mp hsc y hy
    simp only [Bool.and_eq_true, Bool.or_eq_true, Bool.not_eq_true', decide_eq_true_eq, decide_eq_false_iff_not] at h
    exact ⟨h.1.1, h.1.2, fun e => h.2.elim (fun z => absurd e z) id⟩
  refine PE.imp (pe_hotzip hctx hm hg ha (fun y hy => (hsc' y hy).1) (fun y hy => (hsc' y hy).2.1) hkind (fun y hy => (hsc' y hy).2.2) hw hgn hne hdw hdg hs2 hpl) fun σ H Q h => hz_reads h
end
end Dn
/-! Dn part 26: told of a lambda's call. -/
namespace Dn
open PySem PySem.Spec PyProof.Rows L2
/-- what a def tells that calls a lambda under try: m by the error's class, c without an error -/
def told (m : Str → Option D) (c : D) : R D → R D
  | .ok _ η => .ok c η
  | .exc ⟨x, none⟩ η => (match m x with
    | some d => .ok d η
    | none => .no)
  | _ => .no
def eTold (m : Str → Option D) (c : D) (fb : FE) : FE := fun ρ η => told m c (fb ρ η)
section
variable {X : Cx} {W : WX} {K : PySem.W.Frag} {w w1 w' : Wd} {σ : L2.St} {H H1 H' : Hp} {ρ : Env} {η η1 η' : Store} {fa fb fc f : FE} {fA : FA}
/-- the answer d may be given in the world w and whatever follows -/
def Ans (K : PySem.W.Frag) (Q : VK) (d : D) (H : Hp) : Prop := ∃ w η, HeapRel K w H η ∧ ∀ v w' H', Ext w H w' H' → HeapRel K w' H' η → RepV K w' H' v d → Q v H'
/-- what the wish comes to at the def's try -/
def TTw (K : PySem.W.Frag) (m : Str → Option D) (c : D) : (XK → Hp → VK → Prop) → Hp → VK → Prop := fun tl H Q =>
  tl (fun cls d H' => ∃ x y, cls = .ref (He.ga K x) ∧ d = none ∧ m x = some y ∧ Ans K Q y H') H (fun _ H' => Ans K Q c H')
theorem tt_of {m : Str → Option D} {c : D} {Q : VK} (rel : Rel K w σ H ρ η) (p : Post K (RepV K) w H Q (fun c d H' => W c d σ H') (told m c (fb ρ η))) : TTw K m c (fun E H' Q' => rdE K (fun c d _ H => E c d H) fb σ H' Q') H Q := by
  refine ⟨w, ρ, η, rel, ?_⟩
  cases e : fb ρ η with
  | ok d η1 =>
    rw [e] at p
    exact fun v w' H' ex hr rv => ⟨w', η1, hr, fun v' w2 H2 ex2 hr2 rv2 => p v' w2 H2 (ex.trans ex2) hr2 rv2⟩
  | exc x η1 =>
    rw [e] at p
    obtain ⟨x, fs⟩ := x
    cases fs with
    | some fs => exact p.elim
    | none =>
      have p' : Post K (RepV K) w H Q (fun c d H' => W c d σ H') (match m x with | some d => R.ok d η1 | none => .no) := p
      cases em : m x with
      | none => rw [em] at p'; exact p'.elim
      | some y =>
        rw [em] at p'
        exact fun cls d w' H' ex hr rx => ⟨x, y, rx.1, rx.2, em, w', η1, hr, fun v' w2 H2 ex2 hr2 rv2 => p' v' w2 H2 (ex.trans ex2) hr2 rv2⟩
  | no => rw [e] at p; exact p.elim
/-- tables more, all else as it was -/
theorem Rel.tabs (rel : Rel K w σ H ρ η) (e : LamX.ExtN H H1) (t : LamX.Tabs (lamT K) H1) : Ext w H w H1 ∧ Rel K w σ H1 ρ η := by
  have ex : Ext w H w H1 := ⟨⟨⟨[], by simp⟩, fun a o h k n m => ⟨e a o h k, n, m⟩⟩, fun a ha => ⟨ha, by
    obtain ⟨_, u, h, k⟩ := rel.heap.bz a ha
    rw [h, e a u h k.1]⟩⟩
  refine ⟨ex, rel.env.ext ex, rel.heap.len, rel.heap.nd, fun i a o ha ho => ?_, fun a ha => ?_, t⟩
  · have r := rel.heap.at_ i a o ha ho
    obtain ⟨u, h, k⟩ := repO_ny r
    exact r.ext ex (by rw [h, e a u h k.1])
  · obtain ⟨n, u, h, k⟩ := rel.heap.bz a ha
    exact ⟨n, u, e a u h k.1, k⟩
variable {x a x0 : Str} {g c P : Addr} {k : Nat} {pg params : Arguments} {bg : List Stmt} {sg scope : Scope} {fdg : FuncData} {Ng : List Str} {body : Expr} {m : Str → Option D} {d : D} {p lpos pos : Pos}
/-- x(lambda: body), made in the def x0 -/
theorem de_lam (hg : Gl X x) (hm : X.mg x = some (.ref g)) (Fg : FunD X.K x x pg bg sg [] [] g fdg) (hb : L2.Binds X.K fdg [a] []) (Sg : FnScope Ng [a] sg) (hNg : Ng[0]? = some a) (hva : Vis sg a)
    (hG : ∀ cdg, Giv X Ng x sg g cdg bg a (X.env.qual ++ "<lambda>") (TTw X.K m d)) (hx0 : x0 ∈ lamNames) (hon : lamOn X.K x0 = true) (hinj : ∀ p ∈ lamT X.K, ∀ q ∈ lamT X.K, p.1 = q.1 → p.2 = q.2)
    (TB : LamX.TabB X.base X.mg (He.cT X.K (x0, none)).1 (He.cT X.K (x0, none)).2) (hcode : X.env.code = .ref (He.cT X.K (x0, none)).1) (hq : X.env.qual ++ "<lambda>" = x0 ++ ".<locals>." ++ "<lambda>") (hr : Room (k + 2) X.A) (L : LamX.LamS X.env.scope scope)
    (hdef : defaultsOf params X.env = ([], [])) (hbind : ∀ (q : Str) (cl : List (Str × Addr)) (pm cv ctv : Value), bindArgs (PySem.W.kla_fn "<lambda>" q params body scope cl pm cv ctv) ⟨[], []⟩ = pure [])
    (hbody : ∀ (A : Around) (outer : List PySem.Env) (s : Shared) (H : Hp) (E : XK) (f c' : Addr), Room k (A.deeper (LamX.lamEnv X scope s.heap.objs.size f c')) → DE (lamC X A outer s H E scope f c') (fun c d _ H => E c d H) body fb)
    (hdb : (x == ("__debug__" : Str)) = false) (hd : (a == ("__debug__" : Str)) = false) (hcd : (a == ("__classdict__" : Str)) = false) :
    DE X W (.Call (.Name x p) [.Lambda params body scope lpos] [] pos) (eTold m d fb) := by
  refine ⟨fun pins s σ H Q I ⟨w, ρ, η, rel, pp⟩ => ?_⟩
  have hmT : ((He.cT X.K (x0, none)).2, X.env.qual ++ "<lambda>") ∈ lamT X.K := by
    rw [hq]
    exact List.mem_map.mpr ⟨x0, List.mem_filter.mpr ⟨hx0, hon⟩, rfl⟩
  obtain ⟨oc, od, dV, kV, doc, pm, an, cdv, ct, osl, rfl, lk, hcg, _, _⟩ := Fg.ex
  refine wpAny_Call_Name_kw (ld_glob I hg hm ?_ hdb)
  refine PySem.W.callWith_K (h₀ := X.base) I.ok.mod.kin Fg.kp ?_ (by rfl) (by rfl)
  show wpAny _ _ (spliced ((false, eval (.Lambda params body scope lpos) X.env) :: backTo pos (starEach [] X.env))) _ _ s
  refine Calls.spliced_cons (LamX.lam_make2 I TB hcode hmT (fun q hq e => (hinj _ hq _ hmT e)) rel.heap.tb hdef (L.has I.ok) fun f c' pm' ctv H1 s' I1 eN T1 hf hfn hfr hco => ?_)
  refine Calls.spliced_nil ⟨I1.kIn, ?_⟩
  obtain ⟨ex, rel1⟩ := rel.tabs eN T1
  have run : codeAny (model X.prog X.w) X.A (.call (.ref g) ⟨[.ref f], []⟩) (CR C8.CX0 X.stack X.prog X.w H1 s' Q C8.E0) s' := by
    refine LamX.run_ofS (N := Ng) (ps := [a]) (us := [.ref f]) (vs := [.ref f]) lk hcg Sg hr I1.env0 (hb s' [.ref f] I1.kIn rfl) (.cons rfl .nil) rfl fun hr' => ?_
    obtain ⟨t', ht', hq'⟩ := hG cdv f c' s' H1 Q (fun E H' Q' => rdE X.K (fun c d _ H => E c d H) fb σ H' Q') (hr'.mono (by omega)) (fun W pn xe E p1 p2 tk hW => act_ok (i := 0) I1 L hf hfn hfr (hbind _ _ _ _ _) tk hW hr' (fun A outer s H hr2 => hbody A outer s H E f c' hr2) hNg hva hd hcd) hco (tt_of rel1 (Post.weak ex pp))
    exact ⟨t', ht'.nox, hq'⟩
  refine wpAny_call (codeAny_mono run fun r s2 hq => ?_)
  cases r with
  | error e => exact (show False from hq).elim
  | ok fl =>
    cases fl with
    | ret u => exact I1.after hq
    | next => exact False.elim hq
    | brk => exact False.elim hq
    | cont => exact False.elim hq
end
end Dn
/-! Dn part 27: defs that call a lambda under try. -/
namespace Dn
open PySem PySem.Spec PyProof.Rows L2
section
variable {X : Cx} {K : PySem.W.Frag} {w w' : Wd} {σ : L2.St} {H H' : Hp} {η η' : Store}
theorem env_none : EnvRel K w σ H (List.replicate σ.length none) := ⟨by simp, fun i d e => by
  rw [List.getElem?_replicate] at e
  split at e <;> cases e⟩
/-- an answer behind things that are forgotten -/
theorem Ans.post {Q : VK} {d : D} {l : Store} {WS : WX} {E : Ends} (hE : E.rt = Q) (hl : ∀ n, D.low n d = true) (hr : HeapRel K w H η) (q : ∀ v w' H', Ext w H w' H' → HeapRel K w' H' η → RepV K w' H' v d → Q v H') : PostS K w H E WS (.ret d (η ++ l)) := by
  intro v w' H' e hr' rv
  rw [hE]
  have h2 := hr.cut e hr' (keepS_app η l)
  rw [List.take_left'] at h2
  · exact q v _ H' (e.cut hr) h2 (rv.cut _ (hl _))
  · rfl
theorem pe_wk {e : Expr} {t : TE} (he : PE X e t) : PE X e (fun σ H Q => ∃ Q' : VK, (∀ v H, Q' v H → Q v H) ∧ t σ H Q') :=
  ⟨fun pins s σ H Q I ⟨Q', m, h⟩ => thn (he.run pins s σ H Q' I h) fun v s1 ⟨x, H1, I1, r, q⟩ => ⟨x, H1, I1, r, m _ _ q⟩⟩
variable {Ng : List Str} {x a n en q : Str} {sg : Scope} {g : Addr} {cdg : Value} {i : Nat} {b₀ : Stmt} {suite : List Stmt} {rc : Expr} {p1 p2 p3 p4 p5 p6 p7 : Pos} {m : Str → Option D} {c : D} {fc : FE}
/-- try: a() / except en as n: suite / return rc -/
theorem giv_ok (hN : Ng.Nodup) (hi : Ng[i]? = some n) (hln : sg.names.lookup n = some .local) (hge : sg.names.lookup en = some .globalImplicit) (hme : X.mg en = some (.ref (He.ga X.K en))) (hde : (en == ("__debug__" : Str)) = false)
    (hex : ∀ y d, m y = some d → PySem.W.exmOne X.K (.ref (He.ga X.K y)) (.ref (He.ga X.K en)) = some true) (hlo : ∀ y d, m y = some d → ∀ n, D.low n d = true)
    (hsu : ∀ (s : Shared) (H : Hp), Room 1 (X.A.deeper (envOfC x sg s.heap.objs.size g cdg)) → ∀ (y : Str) (d : D), m y = some d → ∀ (a : Addr) (oe : Obj) (pn : List (Addr × Obj)), L2N.Zn (.ref (He.ga X.K y)) none oe → (∃ vs, oe.data = .fields vs) →
      ∃ fs : FS, DSs ((cxOf C8.CX0 X.prog X.w X.K X.mg X.base Ng x sg g cdg X.A X.stack s H C8.E0).nox.suite a ((a, oe) :: pn)) WF (b₀ :: suite) fs ∧ ∀ η, ∃ l, fs ((List.replicate Ng.length none).set i (some (.adr a))) η = .ret d (η ++ l))
    (hrc : ∀ (s : Shared) (H : Hp), Room 1 (X.A.deeper (envOfC x sg s.heap.objs.size g cdg)) → DE (cxOf C8.CX0 X.prog X.w X.K X.mg X.base Ng x sg g cdg X.A X.stack s H C8.E0).nox WF rc fc) (hfc : ∀ ρ η, fc ρ η = .ok c η)
    (h0 : ∀ f : Addr, (L2.start Ng [V.ref f])[0]? = some (some (V.ref f))) :
    Giv X Ng x sg g cdg [.Try [.Expr (.Call (.Name a p1) [] [] p2) p3] [.ExceptHandler (some (.Name en p4)) (some n) (b₀ :: suite) p5] [] [] p6, .Return (some rc) p7] a q (TTw X.K m c) := by
  intro f c' s H Q tl hroom act hc h
  have hgl : Gl (cxOf C8.CX0 X.prog X.w X.K X.mg X.base Ng x sg g cdg X.A X.stack s H C8.E0).nox en := hge
  refine ⟨_, pss_cons (L2N.ps_try_as (X := (cxOf C8.CX0 X.prog X.w X.K X.mg X.base Ng x sg g cdg X.A X.stack s H C8.E0).nox) (c := .ref (He.ga X.K en)) (i := i) (Wout := fun _ _ _ _ => False)
      (tb := fun W D σ H => ∃ (Ech : XK) (Q' : VK), (∀ cls d σ' H', Ech cls d H' → W cls d σ' H') ∧ (∀ v H', Q' v H' → D.nx σ H') ∧ σ[0]? = some (some (.ref f)) ∧ H c' = some (LamX.CodeO c' q) ∧ tl Ech H Q')
      (ts := fun a cls dd D' σ H => ∃ (σ0 : L2.St) (y : Str) (d : D), σ = σ0.set i (some (.ref a)) ∧ cls = .ref (He.ga X.K y) ∧ dd = none ∧ m y = some d ∧ Ans X.K D'.rt d H)
      rfl rfl hN hi hln ⟨hgl, hde, .inl hme⟩ tk0 (fun W pn xe tk _ => ?_) (fun a oe cls d pn hz hf => ?_)) (pss_one (ps_ret (hrc s H hroom))), ?_⟩
  · refine ⟨fun pins s' σ H' D I ⟨Ech, Q', hW, hQ, h1, h2, h3⟩ => ?_⟩
    exact (pss_one (ps_expr (pos := p3) (pe_wk (act W pn xe Ech p1 p2 tk hW)))).run pins s' σ H' D I ⟨Q', fun v H h => hQ v H h, h1, h2, h3⟩
  · refine ⟨fun pins s' σ H' D I ⟨σ0, y, dv, es, ec, ed, my, w, η, hr, qa⟩ => ?_⟩
    subst ec ed
    obtain ⟨fs, hfs, hev⟩ := hsu s H hroom y dv my a oe pn hz hf
    have hlen : σ0.length = Ng.length := by
      have := I.len
      rw [es, List.length_set] at this
      exact this
    obtain ⟨l, el⟩ := hev η
    refine hfs.run pins s' σ H' D I ⟨w, (List.replicate Ng.length none).set i (some (.adr a)), η, ⟨?_, hr⟩, ?_⟩
    · rw [es]
      have := (env_none (K := X.K) (w := w) (σ := σ0) (H := H')).set (i := i) (RepV.adr a)
      rw [hlen] at this
      exact this
    · rw [el]
      exact Ans.post rfl (hlo y dv my) hr qa
  · refine ⟨fun cls d H' => ∃ x y, cls = .ref (He.ga X.K x) ∧ d = none ∧ m x = some y ∧ Ans X.K Q y H', fun _ H' => Ans X.K Q c H',
      fun cls d σ' H' ⟨y, dv, e1, e2, e3, e4⟩ => ⟨true, by rw [e1]; exact hex y dv e3, fun _ a _ => ⟨σ', y, dv, rfl, e1, e2, e3, e4⟩, fun z => by cases z⟩, fun v H' ⟨w, η, hr, qa⟩ => ?_, h0 f, hc, h⟩
    refine ⟨w, _, η, ⟨env_none, hr⟩, ?_⟩
    rw [hfc]
    exact qa
end
end Dn
/-! Dn part 28: a local name that holds a def; the maker's code object. -/
namespace Dn
open PySem PySem.Spec PyProof.Rows L2
def eCallV (T : Str → Option (Nat × FF)) (i : Nat) (fA : FA) : FE := fun ρ η => match ρ[i]? with
  | some (some (.gl x)) => (match T x with
    | some (n, F) => eCall n F fA ρ η
    | none => .no)
  | _ => .no
section
variable {X : Cx} {W : WX} {e : Expr} {es : List Expr} {pos p : Pos} {fA : FA}
theorem de_callV {y : Str} {i k : Nat} {T : Str → Option (Nat × FF)} (A : ∀ x n F, T x = some (n, F) → FOk X.prog X.w X.K X.mg X.base k x n F) (tk : L2N.Takes X W) (hr : Room k X.A) (ha : DA X W (e :: es) fA)
    (hN : X.N[i]? = some y := by rfl) (hv : Vis X.env.scope y := by first | exact Or.inl rfl | exact Or.inr (Or.inl rfl) | exact Or.inr (Or.inr rfl))
    (hdb : (y == ("__debug__" : Str)) = false := by decide) (hcd : (y == ("__classdict__" : Str)) = false := by decide)
    (he : starEach (e :: es) X.env = (false, eval e X.env) :: starEach es X.env := by rfl) (hpl : (backTo pos (starEach es X.env)).any (·.1) = false := by rfl) :
    DE X W (.Call (.Name y p) (e :: es) [] pos) (eCallV T i fA) := by
  refine ⟨fun pins s σ H Q I ⟨w, ρ, η, rel, pp⟩ => ?_⟩
  unfold eCallV at pp
  cases eρ : ρ[i]? with
  | none => rw [eρ] at pp; exact pp.elim
  | some o =>
    cases o with
    | none => rw [eρ] at pp; exact pp.elim
    | some d =>
      rw [eρ] at pp
      cases d with
      | gl x =>
        cases eT : T x with
        | none => simp only [eT] at pp; exact pp.elim
        | some q =>
          obtain ⟨n, F⟩ := q
          simp only [eT] at pp
          have FO := A x n F eT
          obtain ⟨fd, ps, a, b⟩ := FO.ok
          obtain ⟨v, hs, rv⟩ := rel.env.at_ i _ eρ
          cases rv
          refine wpAny_Call_Name_kw (thn ((pe_var (pos := p) hN hv hdb hcd).run pins s σ H (fun v H1 => v = .ref (He.ga X.K x) ∧ H1 = H) I ⟨_, hs, rfl, rfl⟩) fun u s1 ⟨v, H1, I1, r1, q1⟩ => ?_)
          obtain ⟨rfl, rfl⟩ := q1
          cases r1
          have ht : rdA X.K W fA σ H1 (fun vs H2 => spD X.K n F vs H2 Q (fun c d H' => W c d σ H')) := by
            obtain ⟨w, ρ, η, rel, q⟩ := rdA_then rel pp
            refine ⟨w, ρ, η, rel, q.imp fun vs H1 ⟨w1, ds, η1, e, rel1, rv, p1⟩ => ?_⟩
            split at p1
            · rename_i hl
              exact ⟨w1, η1, ds, rel1.heap, rv, hl, p1⟩
            · exact p1.elim
          refine PySem.W.callWith_K (h₀ := X.base) I.ok.mod.kin FO.kp (thn (ha.run pos pins s1 σ _ _ I1 ht) fun us s2 ⟨vs, H2, I2, r, q⟩ => ⟨I2.kIn, ?_⟩) he hpl
          exact run_fnS (E := fun σ c d H' => W c d σ H') a hr b (L2N.passAt tk σ) I2 r q
      | _ => exact (show False from pp).elim
end
section
variable {P : Program} {w : World} {K : PySem.W.Frag} {mg : Str → Option Value} {base : Heap} {j k n : Nat} {x : Str} {F : FF}
/-- as fn_ok, the code object known -/
theorem fn_okC {N ps : List Str} {n k : Nat} {b : FS} {params : Arguments} {body : List Stmt} {scope : Scope} {fd : FuncData} (F : FunD K x x params body scope [] [] (He.ga K x) fd) (S : FnScope N ps scope) (hn : ps.length = n)
    (hb : ∀ (cdv : Value) (A : Around) (outer : List PySem.Env) (s : Shared) (H : Hp) (E : XK), cdv = .ref (He.cT K (x, none)).1 → Room k (A.deeper (envOfC x scope s.heap.objs.size (He.ga K x) cdv)) →
      DSs (cxOf (L2N.CX P w) P w K mg base N x scope (He.ga K x) cdv A outer s H E) (fun c d _ H => E c d H) body b) :
    FnOk P w K mg base (L2N.CX P w) (k + 1) (He.ga K x) fd ps (spD K n (runF N.length b)) := by
  have len := @spD.len K n (runF N.length b) ps hn
  obtain ⟨oc, od, dV, kV, doc, pm, an, cdv, ct, osl, rfl, lk, hcd, _, _⟩ := F.ex
  obtain ⟨c, rfl⟩ := He.codeIn_ref hcd
  have ec : (He.cT K (x, none)).1 = c := He.codeOf_eq lk rfl
  refine fn_of lk hcd S len fun A outer s H vs Q E hr ⟨wd, η, ds, hh, rv, hl, p⟩ => ⟨_, hb (.ref c) A outer s H E (by rw [ec]) hr, ?_⟩
  refine ⟨wd, _, η, ⟨envRel_start rv, hh⟩, ?_⟩
  unfold runF at p
  cases e : b (ds.map some ++ List.replicate (N.length - ds.length) none) η with
  | nx ρ η' => rw [e] at p; exact fun σ' w' H' e' r => p .non w' H' e' r.heap .non
  | ret d η' => rw [e] at p; exact p
  | exc x ρ η' => rw [e] at p; exact fun c d σ' w' H' e' r rx => p c d w' H' e' r.heap rx
  | brk ρ η' => rw [e] at p; exact p.elim
  | cnt ρ η' => rw [e] at p; exact p.elim
  | no => rw [e] at p; exact p.elim
theorem Fn1.okC {N ps : List Str} {b : FS} {st : Stmt} (h : Fn1 K mg x st) (S : FnScope N ps (defScope st)) (hn : ps.length = n)
    (hb : ∀ (cdv : Value) (A : Around) (outer : List PySem.Env) (s : Shared) (H : Hp) (E : XK), cdv = .ref (He.cT K (x, none)).1 → Room k (A.deeper (envOfC x (defScope st) s.heap.objs.size (He.ga K x) cdv)) →
      L2N.Takes (cxOf (L2N.CX P w) P w K mg base N x (defScope st) (He.ga K x) cdv A outer s H E) (fun c d _ H => E c d H) →
      PassesOwn (model P w) (A.deeper (envOfC x (defScope st) s.heap.objs.size (He.ga K x) cdv)) (envOfC x (defScope st) s.heap.objs.size (He.ga K x) cdv) (cxOf (L2N.CX P w) P w K mg base N x (defScope st) (He.ga K x) cdv A outer s H E).xe →
      DSs (cxOf (L2N.CX P w) P w K mg base N x (defScope st) (He.ga K x) cdv A outer s H E) (fun c d _ H => E c d H) (defBody st) b)
    (bn : ∀ (kV doc pm : Value) (an : Option Addr) (cdv ct : Value) (us : List Value), us.length = ps.length → bindArgs (PySem.W.fnOf x x (defArgs st) (defBody st) (defScope st) .none kV doc pm an cdv ct) ⟨us, []⟩ = pure (ps.zip us)) :
    FOk P w K mg base (k + 1) x n (runF N.length b) := by
  obtain ⟨fd, F⟩ := h.f
  exact ⟨h.g, F.kp, fd, ps, fn_okC F S hn fun cdv A outer s H E hc hr => hb cdv A outer s H E hc hr (L2N.takes_of rfl rfl rfl rfl) (passes_of rfl), F.bindsN bn⟩
end
/-! ### a sum that is a thing -/
def addO : G2 := fun x y η => match lstOf x η, lstOf y η with
  | some a, some b => if a.length + b.length ≤ sizeLine then some (.obj η.length, η ++ [.lst (a ++ b)]) else none
  | _, _ => none
theorem opD_addO {X : Cx} : OpR X (binaryOp .Add) (rd2 X.K addO) := op_of op_cat fun hr r1 r2 h p => by
  unfold addO at h
  split at h
  · rename_i e1 e2
    split at h
    · rename_i hl
      cases h
      obtain ⟨a1, xs, rfl, h1, q1⟩ := lstOf_ok hr r1 e1
      obtain ⟨a2, ys, rfl, h2, q2⟩ := lstOf_ok hr r2 e2
      exact ⟨_, _, _, _, rfl, rfl, h1, h2, by rw [q1.length, q2.length]; exact hl, fun q hq => obj_of p hr (q1.append q2) hq⟩
    · cases h
  · cases h
/-! ### raise x(e) -/
section
variable {X : Cx} {W : WX} {e : Expr} {pos p p3 : Pos} {fe : FE}
theorem pmk_ownN {C : Addr} {bmB : List Value} {B newId initId : String} {x : Str} {es : List Expr} {t : TA} (F : ExcBaseFacts B newId initId bmB) (q : PySem.W.excIn X.K C bmB newId = true) (gC : X.mg x = some (.ref C))
    (kC : PySem.W.keepIn X.K (.ref C) = true) (r : Raises X (.ref C)) (hg : Gl X x) (ha : PA X (e :: es) t) (hdb : (x == ("__debug__" : Str)) = false := by decide)
    (he : starEach (e :: es) X.env = (false, eval e X.env) :: starEach es X.env := by rfl) (hpl : (backTo pos (starEach es X.env)).any (·.1) = false := by rfl) :
    L2N.PMk X (.Call (.Name x p) (e :: es) [] pos) (fun σ H Q => t σ H fun vs H1 => vs.length ≤ sizeLine ∧ Q (.ref C) none H1) := by
  intro pins s σ H Q I h
  refine wpAny_Call_Name_kw (ld_glob I hg gC ?_ hdb)
  refine PySem.W.callWith_K (h₀ := X.base) I.ok.mod.kin kC (thn (ha.run pos pins s σ H _ I h) fun us s1 ⟨vs, H1, I1, r1, hz, q1⟩ => ⟨I1.kIn, ?_⟩) he hpl
  show wpAny _ _ (call (.ref C) us) _ _ _
  obtain ⟨bm, N, nm, qn, bs, hdct, sn, sub, ab, col, dd, k0, k1, k2, k3, k5, mN, hC, hN, hni, T⟩ := exc_obj I1.kIn q
  refine wpAny_call_exc_subT F T hC hN hni (fun h' e hm => ?_) (by rw [← r1.length]; exact hz)
  exact L2N.mk_of I1 hm r q1 (I1.hok.gone hm.new)
def sRaiseE (x : Str) (fe : FE) : FS := fun ρ η => (fe ρ η).bindS ρ fun _ η => .exc ⟨x, none⟩ ρ η
theorem ds_raiseE {x : Str} (hc : X.calm = true) (tk : L2N.Takes X W) (k : ExcK X.K X.mg x) (he : DE X W e fe) (hg : Gl X x := by rfl) (hdb : (x == ("__debug__" : Str)) = false := by decide)
    (hs : starEach [e] X.env = (false, eval e X.env) :: starEach [] X.env := by rfl) :
    DS X W (.Raise (some (.Call (.Name x p) [e] [] p3)) none pos) (sRaiseE x fe) :=
  PS.imp (L2N.ps_raise hc tk (pmk_ownN F.excBase_ValueError k.ex k.g k.kp (raises_own k.sb k.ty) hg (pa_cons he pa_nil hs) hdb hs (by rfl))) fun E σ H ⟨w, ρ, η, rel, p⟩ => by
    exact (rdE_thenS rel p).imp fun v H1 ⟨w1, d, η1, ex, rel1, rv, p1⟩ => ⟨by show 1 ≤ sizeLine; rw [sizeLine_eq]; omega, p1 _ _ σ w1 H1 .refl rel1 ⟨rfl, rfl⟩⟩
variable {P : Po} {ρ : Env} {η : Store}
@[simp] theorem w_raiseE {x : Str} : wpS (sRaiseE x fe ρ η) P ↔ wpR (fe ρ η) (fun _ η' => P.ex ⟨x, none⟩ ρ η') (fun x η' => P.ex x ρ η') := by
  unfold sRaiseE
  cases fe ρ η <;> exact Iff.rfl
end
/-- defs by name -/
def tabF : List (Str × Nat × FF) → Str → Option (Nat × FF)
  | [], _ => none
  | (y, q) :: r, x => if x = y then some q else tabF r x
section
variable {P : Program} {w : World} {K : PySem.W.Frag} {mg : Str → Option Value} {base : Heap} {k : Nat}
def AF (P : Program) (w : World) (K : PySem.W.Frag) (mg : Str → Option Value) (base : Heap) (k : Nat) (T : Str → Option (Nat × FF)) : Prop := ∀ x n F, T x = some (n, F) → FOk P w K mg base k x n F
theorem af_nil : AF P w K mg base k (tabF []) := fun _ _ _ h => by cases h
theorem af_cons {j n : Nat} {y : Str} {F : FF} {r : List (Str × Nat × FF)} (h : FOk P w K mg base j y n F) (l : j ≤ k) (hr : AF P w K mg base k (tabF r)) : AF P w K mg base k (tabF ((y, n, F) :: r)) := fun x n' F' e => by
  unfold tabF at e
  split at e
  · rename_i ex
    cases e
    subst ex
    exact h.mono l
  · exact hr _ _ _ e
end
def allB : List Bool → Bool
  | [] => true
  | b :: r => b && allB r
theorem allB_at {l : List Bool} (h : allB l = true) (i : Nat) {b : Bool} (hi : l[i]? = some b) : b = true := by
  induction l generalizing i with
  | nil => simp at hi
  | cons x r ih =>
    have h' : (x && allB r) = true := h
    simp only [Bool.and_eq_true] at h'
    cases i with
    | zero => simp at hi; rw [← hi]; exact h'.1
    | succ i => exact ih h'.2 i (by simpa using hi)
/-! ### what the head tells of the makers of lambdas -/
/-- the tables of the defs in tf -/
def Tx (K : PySem.W.Frag) (mg : Str → Option Value) (base : Heap) (tf : List Str) : Prop := ∀ x ∈ tf, LamX.TabB base mg (He.cT K (x, none)).1 (He.cT K (x, none)).2
/-- only the defs in tf make lambdas, each has its own table -/
def tabX (K : PySem.W.Frag) (tf : List Str) : Bool := (lamNames.all fun x => decide (x ∈ tf) || !lamOn K x) && (tf.all fun x => lamOn K x && (tf.all fun y => !decide ((He.cT K (x, none)).2 = (He.cT K (y, none)).2) || decide (x = y)))
theorem tabX_on {K : PySem.W.Frag} {tf : List Str} (h : tabX K tf = true) : ∀ x ∈ tf, lamOn K x = true := fun x hx => by
  unfold tabX at h
  simp only [Bool.and_eq_true, List.all_eq_true] at h
  exact (h.2 x hx).1
theorem tabX_sub {K : PySem.W.Frag} {tf : List Str} (h : tabX K tf = true) {p : Addr × Str} (hp : p ∈ lamT K) : ∃ x ∈ tf, p = ((He.cT K (x, none)).2, x ++ ".<locals>." ++ "<lambda>") := by
  obtain ⟨x, hx, e⟩ := List.mem_map.mp hp
  obtain ⟨hx1, hx2⟩ := List.mem_filter.mp hx
  unfold tabX at h
  simp only [Bool.and_eq_true, List.all_eq_true, Bool.or_eq_true, decide_eq_true_eq, Bool.not_eq_true'] at h
  rcases h.1 x hx1 with z | z
  · exact ⟨x, z, e.symm⟩
  · rw [z] at hx2; cases hx2
theorem tabX_inj {K : PySem.W.Frag} {tf : List Str} (h : tabX K tf = true) : ∀ p ∈ lamT K, ∀ q ∈ lamT K, p.1 = q.1 → p.2 = q.2 := fun p hp q hq e => by
  obtain ⟨x, hx, rfl⟩ := tabX_sub h hp
  obtain ⟨y, hy, rfl⟩ := tabX_sub h hq
  unfold tabX at h
  simp only [Bool.and_eq_true, List.all_eq_true, Bool.or_eq_true, decide_eq_true_eq, Bool.not_eq_true', decide_eq_false_iff_not] at h
  rcases (h.2 x hx).2 y hy with z | z
  · exact absurd e z
  · rw [z]
/-- the law's promise with tables -/
theorem law_atS {l : PySem.W.OpenLaw} {w : World} {K : PySem.W.Frag} {mg : Str → Option Value} {h : Heap} {tf : List Str} {fa : Addr} {fd : FuncData} {F : FF} {k n : Nat} {x : Str} {fl : List He.Fa} {fn : List He.DefD} {ex : PySem.W.Frag → Bool}
    (KX : K.In h) {ts : List He.Tab} (c : He.SaysX fl fn ts (tf.map fun x => (x, none)) ex w h K) (ht : tabX K tf = true) (hb : ∀ (s : Shared) (u : Value), BindsTo s fd ⟨[u], []⟩ [(x, u)])
    (hl : ∀ ns : List Int, ns.length ≤ n → ∃ η', F [.scr (ns.map D.int)] [] = .ok (.bl true) η')
    (hF : ∀ base : Heap, K.In base → base.Ns mainGlobals mg → Tx K mg base tf → FnOk l.prog w K mg base (L2N.CX l.prog w) k fa fd [x] (spD K 1 F)) :
    LamX.LawAtS l w K C8.CX0 k n x mg fa h := by
  refine ⟨fd, tf.map fun x => He.cT K (x, none), fun vs H Q _ => spD K 1 F vs H Q L2.E0, fun p hp => ?_, fun p hp => ?_, fun p hp => ?_, hb, fun H a ns hn _ hH hS => ?_, fun base KB hmg hT => FnOk.no_exc (hF base KB hmg fun x hx => hT _ (List.mem_map.mpr ⟨x, hx, rfl⟩))⟩
  · obtain ⟨x, hx, rfl⟩ := List.mem_map.mp hp
    exact c.empty (x, none) (List.mem_map.mpr ⟨x, hx, rfl⟩)
  · obtain ⟨x, hx, rfl⟩ := List.mem_map.mp hp
    exact c.out (x, none) (List.mem_map.mpr ⟨x, hx, rfl⟩)
  · obtain ⟨x, hx, rfl⟩ := List.mem_map.mp hp
    have := c.hd (x, none) (List.mem_map.mpr ⟨x, hx, rfl⟩)
    exact PySem.W.codeHd_of_K KX this
  · refine law_spT hl H a ns hn (fun p hp => ?_) hS
    obtain ⟨x, hx, rfl⟩ := tabX_sub ht hp
    exact LamX.TabS.nil (hH _ (List.mem_map.mpr ⟨x, hx, rfl⟩))
end Dn
/-! Dn part 29: wishes of what is new. -/
namespace Dn
open PySem PySem.Spec PyProof.Rows L2
section
variable {fa fb f : FE} {fA : FA} {ρ : Env} {η : Store} {QD : D → Store → Prop} {E : Ex → Store → Prop} {P : Po}
theorem ret_of_wp {r : RS} {d : D} {η0 : Store} (h : wpS r ⟨fun _ _ => False, fun d' η' => d' = d ∧ ∃ l, η' = η0 ++ l, fun _ _ => False, fun _ _ => False, fun _ _ _ => False⟩) : ∃ l, r = .ret d (η0 ++ l) := by
  cases r with
  | ret d' η' =>
    obtain ⟨rfl, l, rfl⟩ := (show _ ∧ _ from h)
    exact ⟨l, rfl⟩
  | _ => exact (show False from h).elim
def hzO (ds : List D) (η : Store) : Option D := match ds with
  | [x, y] => (match lstOf x η, lstOf y η with
    | some xs, some ys => (match strsOf xs, boolsOf ys with
      | some ws, some bs => if ws.length ≤ 1000 then some (.lst ((pick ws bs).map .str)) else none
      | _, _ => none)
    | _, _ => none)
  | _ => none
@[simp] theorem w_hz : wpR (hz fA ρ η) QD E ↔ wpR (fA ρ η) (fun ds η => wpO (hzO ds η) fun d => QD d η) E := by
  unfold hz
  cases fA ρ η with
  | ok ds η =>
    show wpR (match ds with | [x, y] => _ | _ => _) QD E ↔ wpO (hzO ds η) fun d => QD d η
    unfold hzO
    match ds with
    | [x, y] =>
      dsimp only
      cases lstOf x η with
      | none => exact Iff.rfl
      | some xs =>
        cases lstOf y η with
        | none => exact Iff.rfl
        | some ys =>
          dsimp only
          cases strsOf xs with
          | none => exact Iff.rfl
          | some ws =>
            cases boolsOf ys with
            | none => exact Iff.rfl
            | some bs =>
              dsimp only
              split <;> exact Iff.rfl
    | [] => exact Iff.rfl
    | [_] => exact Iff.rfl
    | _ :: _ :: _ :: _ => exact Iff.rfl
  | exc x η => exact Iff.rfl
  | no => exact Iff.rfl
def toldE (m : Str → Option D) (Q : D → Store → Prop) : Ex → Store → Prop := fun x η => match x with
  | ⟨y, none⟩ => wpO (m y) fun d => Q d η
  | _ => False
@[simp] theorem toldE_at {m : Str → Option D} {Q : D → Store → Prop} {y : Str} : toldE m Q ⟨y, none⟩ η ↔ wpO (m y) fun d => Q d η := Iff.rfl
@[simp] theorem w_told {m : Str → Option D} {c : D} : wpR (eTold m c fb ρ η) QD E ↔ wpR (fb ρ η) (fun _ η => QD c η) (toldE m QD) := by
  unfold eTold told
  cases fb ρ η with
  | ok d η => exact Iff.rfl
  | no => exact Iff.rfl
  | exc x η =>
    obtain ⟨y, fs⟩ := x
    cases fs with
    | some fs => exact Iff.rfl
    | none =>
      show wpR (match m y with | some d => .ok d η | none => .no) QD E ↔ wpO (m y) fun d => QD d η
      cases m y <;> exact Iff.rfl
def fnAt (T : Str → Option (Nat × FF)) (i : Nat) (ρ : Env) : Option (Nat × FF) := match ρ[i]? with
  | some (some (.gl x)) => T x
  | _ => none
@[simp] theorem w_callV {T : Str → Option (Nat × FF)} {i : Nat} : wpR (eCallV T i fA ρ η) QD E ↔ wpO (fnAt T i ρ) fun p => wpR (eCall p.1 p.2 fA ρ η) QD E := by
  unfold eCallV fnAt
  cases ρ[i]? with
  | none => exact Iff.rfl
  | some o =>
    cases o with
    | none => exact Iff.rfl
    | some d =>
      cases d with
      | gl x =>
        dsimp only
        cases T x with
        | none => exact Iff.rfl
        | some p => exact Iff.rfl
      | _ => exact Iff.rfl
theorem w_cmp0 {b : TGt} {s : FT} {te : FE} {QL : List D → Store → Prop} : wpR (cmp b s te ρ [] η) QL E ↔ QL [] η := Iff.rfl
theorem w_cmp1 {b : TGt} {s : FT} {te : FE} {x : D} {xs : List D} {QL : List D → Store → Prop} : wpR (cmp b s te ρ (x :: xs) η) QL E ↔ wpO (b x ρ) fun ρ1 => wpR (s ρ1 η) (fun k η => if k = true then wpR (te ρ1 η) (fun y η => wpR (cmp b s te ρ xs η) (fun ys η => QL (y :: ys) η) E) E else wpR (cmp b s te ρ xs η) QL E) E := by
  show wpR (match b x ρ with | none => .no | some ρ1 => _) QL E ↔ _
  cases b x ρ with
  | none => exact Iff.rfl
  | some ρ1 =>
    dsimp only [wpO]
    rw [wpR_bind]
    refine wpR_congr fun k η => ?_
    cases k with
    | false => exact Iff.rfl
    | true =>
      show wpR (R.bind _ _) _ _ ↔ wpR _ _ _
      rw [wpR_bind]
      refine wpR_congr fun y η => ?_
      rw [wpR_bind]
      exact wpR_congr fun ys η => Iff.rfl
/-! ### comprehensions over few known things, as equations -/
theorem callV_eq {T : Str → Option (Nat × FF)} {i n : Nat} {x : Str} {F : FF} (h : ρ[i]? = some (some (.gl x))) (hT : T x = some (n, F)) : eCallV T i fA ρ η = eCall n F fA ρ η := by
  unfold eCallV
  rw [h]
  dsimp only
  rw [hT]
theorem cmp_one {b : TGt} {te : FE} {x u : D} {xs us : List D} {ρ1 : Env} (hb : b x ρ = some ρ1) (h : te ρ1 η = .ok u η) (hr : cmp b yes te ρ xs η = .ok us η) : cmp b yes te ρ (x :: xs) η = .ok (u :: us) η := by
  unfold cmp
  rw [hb]
  show R.bind (te ρ1 η) _ = _
  rw [h]
  show R.bind (cmp b yes te ρ xs η) _ = _
  rw [hr]
  rfl
theorem lc_val {N : Nat} {vs : List Nat} {ft te : FE} {b : TGt} {xs us : List D} (hf : iVal ft ρ η = .ok (.val xs) η) (h : cmp b yes te (wipeD ρ vs) xs η = .ok us η) (hl : us.length ≤ sizeLine) : lc N vs (iVal ft) b yes te ρ η = .ok (.lst us) η := by
  unfold lc
  rw [hf]
  show R.bind (nx (cmp b yes te (wipeD ρ vs) xs η)) _ = _
  rw [h]
  show (if us.length ≤ sizeLine then _ else _) = _
  rw [if_pos hl]
end
end Dn
/-! Dn part 30: the hot comprehension stored to a name. -/
namespace Dn
open PySem PySem.Spec PyProof.Rows L2
section
variable {X : Cx} {a : Addr} {oe : Obj} {pn : List (Addr × Obj)} {e1 e2 : Expr} {t : TA} {wn gn : Str} {pe pa pb pt zp zpos pos gp : Pos} {kk : Nat} {scope : Scope}
set_option maxHeartbeats 4000000 in
theorem ps_hotzip {i : Nat} {y : Str} {py spos : Pos} (hN : X.N.Nodup) (hy : X.N[i]? = some y) (hyl : X.env.scope.names.lookup y = some .local) (hsw : swapsWith (.ListComp (.Name wn pe) [⟨.Tuple [.Name wn pa, .Name gn pb] kk pt, .Call (.Name "zip" zp) [e1, e2] [] zpos, [.Name gn gp], 0⟩] scope pos) (some (.Name y py)) spos.line X.env = pure true) (hctx : ∃ vs : Array Value, oe.data = .fields vs ∧ vs[2]? = some .none) (hm : X.mg "zip" = none) (hg : Gl X "zip") (ha : PA (X.suite a ((a, oe) :: pn)) [e1, e2] t)
    (hfree : ∀ y ∈ scope.names, y.2 ≠ .free) (hcell : ∀ y ∈ scope.names, y.2 ≠ .cell) (hkind : scope.kind = .function) (hnames : ∀ y ∈ scope.names, y.2 = .local → scope.names.lookup y.1 = some .local)
    (hw : scope.names.lookup wn = some .local) (hgn : scope.names.lookup gn = some .local) (hne : wn ≠ gn) (hdw : (wn == ("__debug__" : Str)) = false) (hdg : (gn == ("__debug__" : Str)) = false)
    (hs2 : starEach [e1, e2] X.env = (false, eval e1 X.env) :: starEach [e2] X.env) (hpl : (backTo zpos (starEach [e2] X.env)).any (·.1) = false) :
    PS (X.suite a ((a, oe) :: pn)) (.Assign [.Name y py] (.ListComp (.Name wn pe) [⟨.Tuple [.Name wn pa, .Name gn pb] kk pt, .Call (.Name "zip" zp) [e1, e2] [] zpos, [.Name gn gp], 0⟩] scope pos) spos) (tAsg (tHZ t) (gName i)) := by
  refine ⟨fun pins s σ H D I h => ?_⟩
  have h : tHZ t σ H (fun x H1 => gName i x σ H1 D.nx) := h
  have hclos := closure_ok (scope := scope) (env := X.env) fun y hy e => absurd e (hfree y hy)
  generalize hcl : cloFrom X.env.cells scope.names [] = cl at hclos
  refine Assign_ListComp_goes hsw hclos hcell hkind hnames ?_ (fun _ => rfl)
  refine Call_ (ld_blt I hg hm PyProof.Rows.boot_zip (PyProof.Rows.callWith_type1 (thn (ha.run zpos pins s σ H _ I h) fun us s1 hh => ?_) hs2 hpl))
  obtain ⟨vs, H1, I1, r1, a1, a2, ws, bs, ev, q1, q2, hz, q⟩ := hh
  subst ev
  cases r1 with | cons ra rr => ?_
  cases rr with | cons rb rr => ?_
  cases rr; cases ra; cases rb
  obtain ⟨its, v1, p1, _⟩ := I1.list (SqL.of q1)
  obtain ⟨its2, v2, p2, _⟩ := I1.list (SqL.of q2)
  have hl1 := p1.isList
  have hl2 := p2.isList
  have lt1 : a1 < s1.heap.objs.size := by obtain ⟨o, e, _⟩ := hl1; exact Heap.lt_size e
  have lt2 : a2 < s1.heap.objs.size := by obtain ⟨o, e, _⟩ := hl2; exact Heap.lt_size e
  obtain ⟨hget, hna, _⟩ := I1.pin (a, oe) (List.mem_append.mpr (.inl List.mem_cons_self))
  have lt3 : a < s1.heap.objs.size := Heap.lt_size hget
  have hot : HotO a s1.heap := let ⟨vs, d, c⟩ := hctx; ⟨oe, vs, hget, d, c⟩
  have hh : (X.suite a ((a, oe) :: pn)).A.handled = some (.ref a) := rfl
  refine zip_begins2 (begins_list a1 its.toArray) (begins_list a2 its2.toArray) hl1 hl2 fun h₁ hZ hTI hTO hi1 hi2 hz5 hk₁ => wpAny_pyIter_zip hZ ?_
  have e1l : its.length = ws.length := by rw [← v1.length, List.length_map]
  have e2l : its2.length = bs.length := by rw [← v2.length, List.length_map]
  refine ⟨_, _, _, _, _, _, rfl, Goes.zip2 (zip_sep2 (N := s1.heap.objs.size) (fp1 := [a1, a]) (fp2 := [a2, a]) (fun b hb => ?_) (fun b hb => ?_))
      (draws_hot (A := (X.suite a ((a, oe) :: pn)).A.in1) hh _ a1 (Nat.ne_of_lt lt1) (Nat.ne_of_lt lt3) its.toArray) (draws_hot (A := (X.suite a ((a, oe) :: pn)).A.in1) hh _ a2 (Nat.ne_of_lt (Nat.lt_succ_of_lt lt2)) (Nat.ne_of_lt (Nat.lt_succ_of_lt lt3)) its2.toArray),
    ?_, ⟨hZ, hTI, ⟨_, _, hTO⟩, ⟨⟨_, hi1, rfl, rfl⟩, hl1.at fun o e => hk₁ _ o e, hot.keep fun o e => hk₁ _ o e⟩, ⟨⟨_, hi2, rfl, rfl⟩, hl2.at fun o e => hk₁ _ o e, hot.keep fun o e => hk₁ _ o e⟩⟩, ?_, fun Dd C s₃ hB => ?_⟩
  · rcases List.mem_cons.mp hb with e | hb
    · rw [e]; exact lt1
    · rw [List.mem_singleton.mp hb]; exact lt3
  · rcases List.mem_cons.mp hb with e | hb
    · rw [e]; exact lt2
    · rw [List.mem_singleton.mp hb]; exact lt3
  · refine Nat.le_trans (Nat.min_le_left ..) ?_
    have : its.toArray.size = ws.length := by simpa using e1l
    rw [this]
    exact Nat.le_trans hz (by decide)
  · intro b hb
    show b < h₁.objs.size
    rw [hz5]
    exact hot_lt lt1 lt2 lt3 (by simpa using hb)
  · obtain ⟨⟨h₃, tk₃, rfl⟩, old, nD, nC, hDC, hnm⟩ := hB
    have nC' : (s1.heap.objs.size + 5 : Nat) ≤ C := by rw [← hz5]; exact nC
    have nD' : (s1.heap.objs.size + 5 : Nat) ≤ Dd := by rw [← hz5]; exact nD
    have hDC' : (Dd : Nat) ≠ C := hDC
    have kinds : ∀ y, scope.names.lookup y = some .local → (compEnvC scope cl C X.env).kindOf y = some .local := fun y hy => lookup_relabel_local hy
    have hp : ((compEnvC scope cl C X.env).scope.kind == .class || ((compEnvC scope cl C X.env).scope.kind == .module && (compEnvC scope cl C X.env).locals != (compEnvC scope cl C X.env).globals)) = false := by
      show (scope.kind == .class || (scope.kind == .module && _)) = false
      rw [hkind]; rfl
    refine ⟨fun i ys s₁ => ∃ h' tk m, s₁ = { s1 with heap := h', toks := tk } ∧ h'.Ns C m ∧ Vals ((pick (ws.take i) (bs.take i)).map V.str) ys ∧ ∀ b o, s1.heap.get? b = some o → h'.get? b = some o, ⟨h₃, tk₃, _, rfl, hnm, .nil, fun b o e => old b o (hk₁ b o e)⟩, ?_, ?_, ?_⟩
    · rintro i ys s₁ h' tk ⟨h₄, tk₄, m, rfl, n₄, e₄, k₄⟩ hk' _
      have off : ∀ b : Addr, (b < s1.heap.objs.size ∨ b = C) → b ∉ Dd :: [s1.heap.objs.size + 4, s1.heap.objs.size + 3, s1.heap.objs.size, s1.heap.objs.size + 1] := fun b hb hm => hot_off (x1 := 0) (l1 := 0) (l2 := 0) hb nC' nD' hDC' (by simpa using hm)
      exact ⟨h', tk, m, rfl, n₄.at' fun o e => hk' _ o (off _ (.inr rfl)) e, e₄, fun b o e => hk' b o (off _ (.inl (Heap.lt_size e))) (k₄ b o e)⟩
    · rintro i v ys s₁ hi ⟨T, x, y, rfl, hx, hy, hT⟩ st ⟨h₄, tk₄, m, rfl, n₄, e₄, k₄⟩ hpl
      have hi1' : i < ws.length := by rw [← e1l]; have := Nat.lt_of_lt_of_le hi (Nat.min_le_left ..); simpa using this
      have hi2' : i < bs.length := by rw [← e2l]; have := Nat.lt_of_lt_of_le hi (Nat.min_le_right ..); simpa using this
      obtain ⟨x', ex, rx⟩ := vals_get v1 (i := i) (v := .str ws[i]) (by simp [hi1'])
      obtain ⟨y', ey, ry⟩ := vals_get v2 (i := i) (v := .bl bs[i]) (by simp [hi2'])
      have ex' : x = x' := by
        have z : its[i]? = some x := by simpa using hx
        rw [ex] at z; exact (Option.some.inj z).symm
      have ey' : y = y' := by
        have z : its2[i]? = some y := by simpa using hy
        rw [ey] at z; exact (Option.some.inj z).symm
      subst ex' ey'
      have ry' : y = .bool bs[i] := ry
      have hCs : C < h₄.objs.size := by obtain ⟨o, _, _, ho, _⟩ := n₄; exact Heap.lt_size ho
      have hotn : HotO a h₄ := hot.keep fun o e => k₄ _ o e
      refine hot_assign hh hotn hT rfl rfl fun h₅ hs₅ => ?_
      have up₅ : ∀ b o, h₄.get? b = some o → h₅.get? b = some o := fun b o e => hs₅ b o (Nat.ne_of_lt (Heap.lt_size e)) e
      show wpAny _ _ (assignInOrder [assign (.Name wn pa) _, assign (.Name gn pb) _] [x, y]) _ _ _
      refine wpAny_assignInOrder_more (wpAny_assign_Name (wpAny_storeName_local (kinds _ hw) (n₄.at' fun o e => up₅ _ o e) (fun h₆ n₆ s₆ => ?_) hp))
      refine wpAny_assignInOrder_more (wpAny_assign_Name (wpAny_storeName_local (kinds _ hgn) n₆ (fun h₇ n₇ s₇ => wpAny_assignInOrder_none ?_) hp))
      have up₇ : ∀ b o, b ≠ C → h₄.get? b = some o → h₇.get? b = some o := fun b o hb e => s₇.extBut _ _ hb (s₆.extBut _ _ hb (up₅ b o e))
      have offC : ∀ b : Addr, b < s1.heap.objs.size + 5 → b ≠ C := fun b hb => hot_ne hb nC'
      have k₇ : ∀ b o, s1.heap.get? b = some o → h₇.get? b = some o := fun b o e => up₇ b o (offC b (Nat.lt_add_right 5 (Heap.lt_size e))) (k₄ b o e)
      have st₇ : ∀ {i : Nat}, (IsZip h₄ (s1.heap.objs.size + 4) (s1.heap.objs.size + 2) (s1.heap.objs.size + 3) .none ∧ IsTupOf2 h₄ (s1.heap.objs.size + 2) (.ref s1.heap.objs.size) (.ref (s1.heap.objs.size + 1)) ∧ (∃ b1 b2, IsTupOf2 h₄ (s1.heap.objs.size + 3) b1 b2) ∧
          (h₄.IsListIter s1.heap.objs.size a1 i ∧ h₄.IsList a1 its.toArray ∧ HotO a h₄) ∧ (h₄.IsListIter (s1.heap.objs.size + 1) a2 i ∧ h₄.IsList a2 its2.toArray ∧ HotO a h₄)) →
          (IsZip h₇ (s1.heap.objs.size + 4) (s1.heap.objs.size + 2) (s1.heap.objs.size + 3) .none ∧ IsTupOf2 h₇ (s1.heap.objs.size + 2) (.ref s1.heap.objs.size) (.ref (s1.heap.objs.size + 1)) ∧ (∃ b1 b2, IsTupOf2 h₇ (s1.heap.objs.size + 3) b1 b2) ∧
          (h₇.IsListIter s1.heap.objs.size a1 i ∧ h₇.IsList a1 its.toArray ∧ HotO a h₇) ∧ (h₇.IsListIter (s1.heap.objs.size + 1) a2 i ∧ h₇.IsList a2 its2.toArray ∧ HotO a h₇)) := by
        rintro i ⟨z1, z2, ⟨b1, b2, z3⟩, ⟨z4, z5, z8⟩, ⟨z6, z7, _⟩⟩
        have lC : ∀ {k : Nat}, k < 5 → s1.heap.objs.size + k ≠ C := fun {k} hk => offC _ (Nat.add_lt_add_left hk _)
        exact ⟨up₇ _ _ (lC (by decide)) z1, up₇ _ _ (lC (by decide)) z2, ⟨b1, b2, up₇ _ _ (lC (by decide)) z3⟩, ⟨z4.at fun o e => up₇ _ o (lC (k := 0) (by decide)) e, z5.at fun o e => up₇ _ o (offC _ (Nat.lt_add_right 5 lt1)) e, z8.keep fun o e => up₇ _ o (offC _ (Nat.lt_add_right 5 lt3)) e⟩,
          ⟨z6.at fun o e => up₇ _ o (lC (by decide)) e, z7.at fun o e => up₇ _ o (offC _ (Nat.lt_add_right 5 lt2)) e, z8.keep fun o e => up₇ _ o (offC _ (Nat.lt_add_right 5 lt3)) e⟩⟩
      have hpk := pick_take ws bs i hi1' hi2'
      refine wpAny_tests_one (isTrue_plain (wpAny_Name (wpAny_loadName_local hkind (kinds _ hgn) n₇ (v := y) (by simp) ?_) hdg))
      rw [ry']
      refine wpAny_pure ?_
      cases hb : bs[i] with
      | false =>
        rw [if_neg (by simp)]
        rw [hb] at hpk
        refine ⟨⟨h₇, _, _, rfl, n₇, ?_, k₇⟩, st₇ st, hpl.at fun o e => up₇ _ o hDC e⟩
        rw [hpk]; simpa using e₄
      | true =>
        rw [if_pos rfl]
        rw [hb] at hpk
        refine wpAny_Name (wpAny_loadName_local hkind (kinds _ hw) n₇ (v := x) (by simp [hne]) ?_) hdw
        refine ⟨⟨h₇, _, _, rfl, n₇, ?_, k₇⟩, st₇ st, hpl.at fun o e => up₇ _ o hDC e⟩
        rw [hpk, if_pos rfl, List.map_append]
        exact vals_snoc e₄ rx
    · rintro ys s₁ ⟨h₄, tk₄, m, rfl, n₄, e₄, k₄⟩ hpl
      have nD'' : s1.heap.objs.size ≤ Dd := Nat.le_trans (Nat.le_add_right _ 5) nD'
      have hfr : H1 Dd = none := I1.hok.fresh nD''
      have nC'' : s1.heap.objs.size ≤ C := Nat.le_trans (Nat.le_add_right _ 5) nC'
      have hall : pick (ws.take (min its.toArray.size its2.toArray.size)) (bs.take (min its.toArray.size its2.toArray.size)) = pick ws bs := by
        refine pick_min ws bs _ ?_
        rw [List.size_toArray, List.size_toArray, e1l, e2l]
        exact Nat.le_refl _
      rw [hall] at e₄
      have J := I1.laid (o := .lst ((pick ws bs).map V.str)) (t' := tk₄) k₄ nD'' ⟨(by
        rw [List.length_map]
        exact Nat.le_trans (pick_len ws bs) (Nat.le_trans hz (by decide))), ys, let ⟨n, e⟩ := hpl; ⟨n, e₄, e⟩⟩
      show wpAny _ _ (assign (.Name y py) X.env (.ref Dd)) _ _ _
      refine wpAny_assign_Name (store_ok2 (X := X.suite a ((a, oe) :: pn)) (v := V.ref Dd) J hN hy (.inl hyl) rfl (fun s2 I2 ⟨a', sb, ha'⟩ => ?_) (.inr hyl))
      obtain ⟨f0, f1, f2, f3, f4, f5⟩ := I1.fpOk (H' := upd H1 Dd (.lst ((pick ws bs).map V.str))) nC'' (by rw [upd_ne (fun e => hDC' e.symm)]; exact I1.hok.fresh nC'')
      have haC : C ≠ a' := by
        rcases ha' with z | z
        · rw [z]; exact f1
        · exact fun e => f4 y a' z e.symm
      refine ⟨m, n₄.sameBut sb haC, fun h3 sb3 => ?_⟩
      exact ⟨_, _, I2.turned (t' := s2.toks) (fun b o hb e => (sb3.2 b hb).trans e) f0 f1 f3 f4 f5, q Dd hfr⟩
end
section
variable {X : Cx} {W : WX} {a : Addr} {oe : Obj} {pn : List (Addr × Obj)} {pos p : Pos} {fA : FA} {e1' e2' : Expr} {wn gn : Str} {p1 p2 p3 p4 p5 p6 p7 : Pos} {kk : Nat} {scope : Scope}
theorem ds_hz (i : Nat) {y : Str} {py spos : Pos} (hctx : ∃ vs : Array Value, oe.data = .fields vs ∧ vs[2]? = some .none) (hm : X.mg "zip" = none) (hN : X.N.Nodup) (hsw : swapsWith (.ListComp (.Name wn p1) [⟨.Tuple [.Name wn p2, .Name gn p3] kk p4, .Call (.Name "zip" p6) [e1', e2'] [] p5, [.Name gn p7], 0⟩] scope pos) (some (.Name y py)) spos.line X.env = pure true)
    (ha : DA (X.suite a ((a, oe) :: pn)) W [e1', e2'] fA) (hy : X.N[i]? = some y := by rfl) (hyl : X.env.scope.names.lookup y = some .local := by rfl)
    (hsc : (scope.names.all fun y => !decide (y.2 = .free) && !decide (y.2 = .cell) && (!decide (y.2 = .local) || decide (scope.names.lookup y.1 = some .local))) = true := by decide) (hkind : scope.kind = .function := by rfl)
    (hw : scope.names.lookup wn = some .local := by rfl) (hgn : scope.names.lookup gn = some .local := by rfl) (hne : wn ≠ gn := by decide) (hdw : (wn == ("__debug__" : Str)) = false := by decide) (hdg : (gn == ("__debug__" : Str)) = false := by decide)
    (hg : Gl X "zip" := by rfl) (hs2 : starEach [e1', e2'] X.env = (false, eval e1' X.env) :: starEach [e2'] X.env := by rfl) (hpl : (backTo p5 (starEach [e2'] X.env)).any (·.1) = false := by rfl) :
    DS (X.suite a ((a, oe) :: pn)) W (.Assign [.Name y py] (.ListComp (.Name wn p1) [⟨.Tuple [.Name wn p2, .Name gn p3] kk p4, .Call (.Name "zip" p6) [e1', e2'] [] p5, [.Name gn p7], 0⟩] scope pos) spos) (sAsg (hz fA) (bN i)) := by
  have hsc' : ∀ y ∈ scope.names, y.2 ≠ .free ∧ y.2 ≠ .cell ∧ (y.2 = .local → scope.names.lookup y.1 = some .local) := fun y hy => by
    have h := List.all_eq_true.mp hsc y hy
    simp only [Bool.and_eq_true, Bool.or_eq_true, Bool.not_eq_true', decide_eq_true_eq, decide_eq_false_iff_not] at h
    exact ⟨h.1.1, h.1.2, fun e => h.2.elim (fun z => absurd e z) id⟩
  refine PS.imp (ps_hotzip hN hy hyl hsw hctx hm hg ha (fun y hy => (hsc' y hy).1) (fun y hy => (hsc' y hy).2.1) hkind (fun y hy => (hsc' y hy).2.2) hw hgn hne hdw hdg hs2 hpl) fun E σ H ⟨w, ρ, η, rel, p⟩ => ?_
  have p' := rdE_thenS rel p
  refine hz_reads (p'.imp fun v H1 ⟨w1, d, η1, e, rel1, rv, p1⟩ => p1 _ w1 H1 .refl ⟨rel1.env.set rv, rel1.heap⟩)
end
end Dn
/-! Dn part 31: dicts with keys that are ints, texts, or tuples of these. -/
namespace Dn
open PySem PySem.Spec PyProof.Rows L2
def keysL : List D → Option (List Key)
  | [] => some []
  | d :: r => match keyD d, keysL r with
    | some k, some ks => some (k :: ks)
    | _, _ => none
def keysD : D → Option (List Key)
  | .tup xs => keysL xs
  | _ => none
section
variable {X : Cx} {W : WX} {K : PySem.W.Frag} {w w1 w' : Wd} {σ : L2.St} {H H1 H' : Hp} {ρ : Env} {η η1 η' : Store}
theorem keysL_ok : ∀ {vs : List V} {ds : List D} {ks : List Key}, RepVs K w H vs ds → keysL ds = some ks → vs = ks.map kV ∧ ds = ks.map dK
  | _, _, _, .nil, h => by cases h; exact ⟨rfl, rfl⟩
  | _, _, _, .cons (d := d) (ds := ds) r rs, h => by
    unfold keysL at h
    cases e1 : keyD d with
    | none => rw [e1] at h; cases h
    | some k =>
      cases e2 : keysL ds with
      | none => rw [e1, e2] at h; cases h
      | some ks =>
        rw [e1, e2] at h; cases h
        obtain ⟨a, b⟩ := keysL_ok rs e2
        obtain ⟨c, d⟩ := keyD_ok r e1
        rw [a, b, c, d]; exact ⟨rfl, rfl⟩
theorem keysL_map : ∀ ks : List Key, keysL (ks.map dK) = some ks
  | [] => rfl
  | k :: ks => by
    rw [List.map_cons]
    unfold keysL
    rw [keysL_map ks]
    cases k <;> rfl
theorem keysD_ok {v : V} {d : D} {ks : List Key} (r : RepV K w H v d) (h : keysD d = some ks) : ∃ b, v = .ref b ∧ H b = some (.tup (ks.map kV)) ∧ d = .tup (ks.map dK) := by
  cases d with
  | tup xs =>
    cases r with | tup hs q => ?_
    obtain ⟨a, b⟩ := keysL_ok q h
    rw [← a, ← b]
    exact ⟨_, rfl, hs.1, rfl⟩
  | _ => cases h
/-- what a dict holds at a key; none: no dict, or no fit key -/
def dget (x i : D) (η : Store) : Option (Option D) := match x with
  | .obj k => (match η[k]? with
    | some (.dK kvs) => (match keyD i with
      | some q => some (getD kvs q)
      | none => none)
    | some (.dT kvs) => (match keysD i with
      | some q => some (getD kvs q)
      | none => none)
    | some (.lkK _ _ kvs) => (match keyD i with
      | some q => some (getD kvs q)
      | none => none)
    | some (.lkT _ _ kvs) => (match keysD i with
      | some q => some (getD kvs q)
      | none => none)
    | _ => none)
  | _ => none
theorem dget_ok {v u : V} {x i : D} {o : Option D} (hr : HeapRel K w H η) (r1 : RepV K w H v x) (r2 : RepV K w H u i) (h : dget x i η = some o) :
    ∃ a ov, v = .ref a ∧ DGet H a u ov ∧ (o = none → ov = none) ∧ ∀ d, o = some d → ∃ z, ov = some z ∧ RepV K w H z d := by
  cases x with
  | obj k =>
    cases r1 with | obj ha => ?_
    unfold dget at h
    dsimp only at h
    cases eo : η[k]? with
    | none => rw [eo] at h; cases h
    | some ob =>
      rw [eo] at h
      cases ob with
      | dK kvs =>
        obtain ⟨xs, e, f⟩ := hr.at_ _ _ _ ha eo
        dsimp only at h
        cases ek : keyD i with
        | none => rw [ek] at h; cases h
        | some q =>
          rw [ek] at h; cases h
          obtain ⟨e1, _⟩ := keyD_ok r2 ek
          subst e1
          obtain ⟨g1, g2⟩ := repF_get (k := q) f
          exact ⟨_, _, rfl, DGet.k e, g2, fun d hd => g1 d hd⟩
      | dT kvs =>
        obtain ⟨xs, e, f⟩ := hr.at_ _ _ _ ha eo
        dsimp only at h
        cases ek : keysD i with
        | none => rw [ek] at h; cases h
        | some q =>
          rw [ek] at h; cases h
          obtain ⟨b, e1, eb, _⟩ := keysD_ok r2 ek
          subst e1
          obtain ⟨g1, g2⟩ := repF_get (k := q) f
          exact ⟨_, _, rfl, DGet.t e eb, g2, fun d hd => g1 d hd⟩
      | lkK od xs kvs =>
        obtain ⟨e, f⟩ := hr.at_ _ _ _ ha eo
        dsimp only at h
        cases ek : keyD i with
        | none => rw [ek] at h; cases h
        | some q =>
          rw [ek] at h; cases h
          obtain ⟨e1, _⟩ := keyD_ok r2 ek
          subst e1
          obtain ⟨g1, g2⟩ := repF_get (k := q) f
          exact ⟨_, _, rfl, .inl ⟨_, _, .inr ⟨od, e⟩, rfl, rfl⟩, g2, fun d hd => g1 d hd⟩
      | lkT od xs kvs =>
        obtain ⟨e, f⟩ := hr.at_ _ _ _ ha eo
        dsimp only at h
        cases ek : keysD i with
        | none => rw [ek] at h; cases h
        | some q =>
          rw [ek] at h; cases h
          obtain ⟨b, e1, eb, _⟩ := keysD_ok r2 ek
          subst e1
          obtain ⟨g1, g2⟩ := repF_get (k := q) f
          exact ⟨_, _, rfl, .inr ⟨_, _, b, .inr ⟨od, e⟩, rfl, eb, rfl⟩, g2, fun d hd => g1 d hd⟩
      | _ => cases h
  | _ => cases h
theorem ix_dct (hu : X.A.units + 1 < cLine) : IxR X (fun x y H Q => ∃ a v, x = .ref a ∧ DGet H a y (some v) ∧ Q v H) := by
  intro value slice pins s σ H x y o i Q I rx ry ⟨a, v, ex, g, q⟩ hs
  subst ex
  obtain rfl : o = Value.ref a := rx
  have hT := dict_typeIs I g
  unfold subscriptTail
  refine wpAny_bind ?_
  rw [getitemInPython_of_ne hT.not_modules]
  refine wpAny_bind (wpAny_specialOf hT PySem.F.slot_dict_getitem.lookup ?_)
  have fin : wpAny (model X.prog X.w) X.A (subscripted slice false (.ref a) i) (fun r s₃ => wpAny (model X.prog X.w) X.A (letTemporaryGo value (.ref a) r >>= fun _ => pure r) (EP X pins σ Q) X.xe s₃) X.xe s := by
    rw [hs]
    exact wpAny_operating (wpAny_mono (d_getItem hu I g ry fun w' s3 I3 rw' => (⟨v, H, I3, rw', q⟩ : EP X pins σ Q w' s3)) (fun r s₃ h₃ => wpAny_bind (wpAny_letTemporaryGo (wpAny_pure h₃))) fun _ _ x => x)
  first
    | exact wpAny_pure (wpAny_bind fin)
    | exact wpAny_bind (wpAny_pure (wpAny_bind fin))
    | exact wpAny_bind fin
/-- x[i] of a list, a tuple, a text, a dict -/
def ixX : G2 := fun x y η => match dget x y η with
  | some (some d) => some (d, η)
  | some none => none
  | none => ixD x y η
theorem ixX_ok (hu : X.A.units + 1 < cLine) : IxR X (rd2 X.K ixX) := by
  intro value slice pins s σ H x y v u Q I rx ry ⟨w, η, d1, d2, hr, r1, r2, p⟩ hs
  unfold ixX at p
  cases e : dget d1 d2 η with
  | none => rw [e] at p; exact ixD_seq value slice pins s σ H x y v u Q I rx ry ⟨w, η, d1, d2, hr, r1, r2, p⟩ hs
  | some o =>
    rw [e] at p
    cases o with
    | none => exact p.elim
    | some d =>
      obtain ⟨a, ov, ex, g, _, g2⟩ := dget_ok hr r1 r2 e
      obtain ⟨z, e1, rz⟩ := g2 d rfl
      subst e1
      exact ix_dct hu value slice pins s σ H x y v u Q I rx ry ⟨a, z, ex, g, p z w H .refl hr rz⟩ hs
/-- y in x -/
def inX : G2 := fun y x η => match dget x y η with
  | some o => some (.bl o.isSome, η)
  | none => inD y x η
def notInX : G2 := fun y x η => match dget x y η with
  | some o => some (.bl (!o.isSome), η)
  | none => notInD y x η
theorem inX_ok (hu : X.A.units + 65 < cLine) : OpR X (compareOp .In) (rd2 X.K inX) := by
  intro pins s σ H y x u v Q I ry rx ⟨w, η, d1, d2, hr, r1, r2, p⟩
  unfold inX at p
  cases e : dget d2 d1 η with
  | none => rw [e] at p; exact opD_in hu pins s σ H y x u v Q I ry rx ⟨w, η, d1, d2, hr, r1, r2, p⟩
  | some o =>
    rw [e] at p
    obtain ⟨a, ov, ex, g, g1, g2⟩ := dget_ok hr r2 r1 e
    subst ex
    obtain rfl : v = Value.ref a := rx
    have hb : o.isSome = ov.isSome := by
      cases o with
      | none => rw [g1 rfl]; rfl
      | some d => obtain ⟨z, e1, _⟩ := g2 d rfl; rw [e1]; rfl
    refine d_in (by omega) I g ry fun s3 I3 => ⟨.bl ov.isSome, H, I3, rfl, ?_⟩
    rw [← hb]
    exact p _ w H .refl hr (.bl _)
theorem notInX_ok (hu : X.A.units + 65 < cLine) : OpR X (compareOp .NotIn) (rd2 X.K notInX) := by
  intro pins s σ H y x u v Q I ry rx ⟨w, η, d1, d2, hr, r1, r2, p⟩
  unfold notInX at p
  cases e : dget d2 d1 η with
  | none => rw [e] at p; exact opD_notIn hu pins s σ H y x u v Q I ry rx ⟨w, η, d1, d2, hr, r1, r2, p⟩
  | some o =>
    rw [e] at p
    obtain ⟨a, ov, ex, g, g1, g2⟩ := dget_ok hr r2 r1 e
    subst ex
    obtain rfl : v = Value.ref a := rx
    have hb : o.isSome = ov.isSome := by
      cases o with
      | none => rw [g1 rfl]; rfl
      | some d => obtain ⟨z, e1, _⟩ := g2 d rfl; rw [e1]; rfl
    refine d_notIn (by omega) I g ry fun s3 I3 => ⟨.bl (!ov.isSome), H, I3, rfl, ?_⟩
    rw [← hb]
    exact p _ w H .refl hr (.bl _)
/-- x[i] = v, also of dicts with tuples for keys -/
def setT (o i v : D) (η : Store) : Option Store := match o with
  | .obj k => (match η[k]? with
    | some (.dT kvs) => (match keysD i with
      | some q => if kvs.length < sizeLine then some (η.set k (.dT (putD kvs q v))) else none
      | none => none)
    | _ => none)
  | _ => none
def setX : GSet := fun o i v η => match setT o i v η with
  | some η' => some η'
  | none => setD o i v η
theorem setX_ok (hu : X.A.units + 64 < cLine) : PSet X (rdSet X.K setX) := by
  intro pins s σ H o i v ov iv u Q I r1 r2 r3 ⟨w, η, d1, d2, d3, hr, q1, q2, q3, p⟩
  unfold setX at p
  cases e : setT d1 d2 d3 η with
  | none => rw [e] at p; exact setD_ok hu pins s σ H o i v ov iv u Q I r1 r2 r3 ⟨w, η, d1, d2, d3, hr, q1, q2, q3, p⟩
  | some η' =>
    rw [e] at p
    have hu' : X.A.units + 1 < cLine := by omega
    refine set_dict hu' pins s σ H o i v ov iv u Q I r1 r2 r3 ?_
    cases d1 with
    | obj k =>
      cases q1 with | obj ha => ?_
      unfold setT at e
      dsimp only at e
      cases eo : η[k]? with
      | none => rw [eo] at e; cases e
      | some ob =>
        rw [eo] at e
        cases ob with
        | dT kvs =>
          obtain ⟨xs, eH, f⟩ := hr.at_ _ _ _ ha eo
          dsimp only at e
          cases ek : keysD d2 with
          | none => rw [ek] at e; cases e
          | some q =>
            rw [ek] at e
            dsimp only at e
            split at e
            · rename_i hl
              cases e
              obtain ⟨b, e1, eb, _⟩ := keysD_ok q2 ek
              subst e1
              refine ⟨_, _, rfl, DPut.t eH eb (by rw [repF_length f]; exact hl), ?_⟩
              exact p w _ (Ext.write ha hr) (hr.write ha ⟨_, upd_same, (repF_put f q3).ext (Ext.write ha hr)⟩)
            · cases e
        | _ => cases e
    | _ => cases e
end
end Dn
/-! Dn part 32: dict displays. -/
namespace Dn
open PySem PySem.Spec PyProof.Rows L2
abbrev FP := Env → Store → R (List (D × D))
def pNil : FP := fun _ η => .ok [] η
def pCons (fk fv : FE) (fp : FP) : FP := fun ρ η => (fk ρ η).bind fun k η => (fv ρ η).bind fun v η => (fp ρ η).bind fun ps η => .ok ((k, v) :: ps) η
section
variable {X : Cx} {W : WX} {K : PySem.W.Frag} {w w1 w' : Wd} {σ : L2.St} {H H1 H' : Hp} {ρ : Env} {η η1 η' : Store} {fk fv : FE} {fp : FP}
def RepPs (K : PySem.W.Frag) (w : Wd) (H : Hp) (vs : List (V × V)) (ds : List (D × D)) : Prop := RepVs K w H (vs.map (·.1)) (ds.map (·.1)) ∧ RepVs K w H (vs.map (·.2)) (ds.map (·.2))
def rdP (K : PySem.W.Frag) (W : WX) (fp : FP) (σ : L2.St) (H : Hp) (Q : List (V × V) → Hp → Prop) : Prop := ∃ w ρ η, Rel K w σ H ρ η ∧ Post K (RepPs K) w H Q (fun c d H' => W c d σ H') (fp ρ η)
structure DP (X : Cx) (W : WX) (pos : Pos) (keys : List (Option Expr)) (values : List Expr) (fp : FP) : Prop where
  ex : ∃ trs, PPs X pos keys values trs ∧ ∀ σ H Q, rdP X.K W fp σ H Q → tPairs trs σ H Q
theorem dp_nil {pos : Pos} : DP X W pos [] [] pNil := ⟨[], pps_nil, fun σ H Q ⟨w, ρ, η, rel, p⟩ => p [] w H .refl rel.heap ⟨.nil, .nil⟩⟩
theorem dp_cons {pos : Pos} {k v : Expr} {ks : List (Option Expr)} {vs : List Expr} (hk : DE X W k fk) (hv : DE X W v fv) (hr : DP X W pos ks vs fp) : DP X W pos (some k :: ks) (v :: vs) (pCons fk fv fp) := by
  obtain ⟨trs, h, m⟩ := hr.ex
  refine ⟨_, pps_cons hk hv h, fun σ H Q ⟨w, ρ, η, rel, p⟩ => ?_⟩
  refine (rdE_then (rep := RepPs X.K) rel p).imp fun x H1 ⟨w1, d1, η1, e1, rel1, r1, p1⟩ => ?_
  refine (rdE_then (rep := RepPs X.K) rel1 p1).imp fun y H2 ⟨w2, d2, η2, e2, rel2, r2, p2⟩ => ?_
  refine m _ _ _ ⟨w2, ρ, η2, rel2, ?_⟩
  cases ef : fp ρ η2 with
  | ok ps η3 =>
    rw [ef] at p2
    intro qs w3 H3 e3 hr3 rq
    exact p2 ((x, y) :: qs) w3 H3 e3 hr3 ⟨.cons ((r1.ext e2).ext e3) rq.1, .cons (r2.ext e3) rq.2⟩
  | exc x η3 => rw [ef] at p2; exact p2
  | no => rw [ef] at p2; exact p2.elim
/-- an object that is being made -/
theorem busy_new {p : Addr} {u : HO} (hr : HeapRel K w1 H1 η1) (hn : H1 p = none) (hu : Ny u) : HeapRel K ⟨w1.io, p :: w1.bz⟩ (upd H1 p u) η1 ∧ Ext w1 H1 ⟨w1.io, p :: w1.bz⟩ (upd H1 p u) := by
  have hnn := hr.new hn
  have m : Mv w1 H1 ⟨w1.io, p :: w1.bz⟩ (upd H1 p u) := ⟨⟨[], by simp⟩, fun c u h _ m n => ⟨by rw [upd_ne (ne_of_none h hn)]; exact h, m, fun q => by
    rcases List.mem_cons.mp q with q | q
    · subst q; rw [hn] at h; cases h
    · exact n q⟩⟩
  refine ⟨⟨hr.len, hr.nd, fun i a ob ha ho => (hr.at_ i a ob ha ho).mv m (upd_ne ?_), fun c hc => ?_, tabs_new hr.tb hn⟩, ⟨m, fun c hc => ⟨List.mem_cons_of_mem _ hc, by obtain ⟨_, u, f, _⟩ := hr.bz c hc; rw [upd_ne (ne_of_none f hn)]⟩⟩⟩
  · intro q; subst q; exact hnn.1 (List.mem_of_getElem? ha)
  · rcases List.mem_cons.mp hc with q | q
    · subst q; exact ⟨hnn.1, _, upd_same, hu⟩
    · obtain ⟨n, u, f, k⟩ := hr.bz c q
      exact ⟨n, u, by rw [upd_ne (ne_of_none f hn)]; exact f, k⟩
/-- it is made: a thing that may change -/
theorem busy_done {p : Addr} {ob : O} {Q : VK} (hr1 : HeapRel K w1 H1 η1) (hn : H1 p = none) (ex : Ext w1 H1 w H) (hb : p ∈ w.bz) (hr : HeapRel K w H η) (ho : RepO K w H p ob)
    (q : ∀ v w' H', Ext w1 H1 w' H' → HeapRel K w' H' (η ++ [ob]) → RepV K w' H' v (.obj η.length) → Q v H') : Q (.ref p) H := by
  have hbs : ∀ c ∈ w1.bz, c ∈ w.bz := fun c hc => (ex.bz c hc).1
  have hnb := (hr1.new hn).2
  have m : Mv w H ⟨w.io ++ [p], w1.bz⟩ H := ⟨⟨[p], rfl⟩, fun c u h _ m n => ⟨h, fun z => by
    rcases List.mem_append.mp z with z | z
    · exact m z
    · have e : c = p := by simpa using z
      subst e; exact n hb, fun z => n (hbs c z)⟩⟩
  refine q _ ⟨w.io ++ [p], w1.bz⟩ H ?_ ?_ (.obj ?_)
  · exact ⟨⟨by obtain ⟨t, e⟩ := ex.pre; exact ⟨t ++ [p], by show w.io ++ [p] = _; rw [e, List.append_assoc]⟩, fun c u h k m n => let ⟨a1, a2, a3⟩ := ex.keep c u h k m n; ⟨a1, (by
      intro z
      rcases List.mem_append.mp z with z | z
      · exact a2 z
      · have e : c = p := by simpa using z
        subst e; rw [hn] at h; cases h), n⟩⟩, fun c hc => ⟨hc, (ex.bz c hc).2⟩⟩
  · refine ⟨by simp [hr.len], ?_, fun i a ob' ha ho' => ?_, fun c hc => ⟨fun z => ?_, (hr.bz c (hbs c hc)).2⟩, hr.tb⟩
    · exact List.nodup_append.mpr ⟨hr.nd, by simp, fun a ha c hc => by
        have e : c = p := by simpa using hc
        subst e
        intro z; subst z
        exact (hr.bz _ hb).1 ha⟩
    · by_cases hi : i < w.io.length
      · rw [List.getElem?_append_left hi] at ha
        rw [List.getElem?_append_left (hr.len ▸ hi)] at ho'
        exact (hr.at_ i a ob' ha ho').mv m rfl
      · have hi' : i = w.io.length := by
          have := (List.getElem?_eq_some_iff.mp ha).1
          simp at this; omega
        subst hi'
        rw [List.getElem?_append_right (Nat.le_refl _)] at ha
        rw [hr.len, List.getElem?_append_right (Nat.le_refl _)] at ho'
        simp at ha ho'
        subst ha ho'
        exact ho.mv m rfl
    · rcases List.mem_append.mp z with z | z
      · exact (hr.bz c (hbs c hc)).1 z
      · have e : c = p := by simpa using z
        subst e; exact hnb hc
  · show (w.io ++ [p])[η.length]? = some p
    rw [← hr.len, List.getElem?_append_right (Nat.le_refl _)]
    simp
def pairsK : List (D × D) → Option (List (Key × D))
  | [] => some []
  | (k, v) :: r => match keyD k, pairsK r with
    | some q, some ps => some ((q, v) :: ps)
    | _, _ => none
theorem pairsK_ok : ∀ {vs : List (V × V)} {ds : List (D × D)} {kvs : List (Key × D)}, RepPs K w H vs ds → pairsK ds = some kvs → ∃ xs : List (Key × V), vs = xs.map (fun kv => (kV kv.1, kv.2)) ∧ RepF K w H xs kvs
  | [], [], _, _, h => by cases h; exact ⟨[], rfl, repF_nil⟩
  | [], _ :: _, _, r, _ => by have := r.1.length; simp at this
  | _ :: _, [], _, r, _ => by have := r.1.length; simp at this
  | (x, y) :: vs, (k, v) :: ds, kvs, r, h => by
    unfold pairsK at h
    cases e1 : keyD k with
    | none => rw [e1] at h; cases h
    | some q =>
      cases e2 : pairsK ds with
      | none => rw [e1, e2] at h; cases h
      | some ps =>
        rw [e1, e2] at h; cases h
        obtain ⟨r1, r2⟩ := r
        cases r1 with | cons a1 b1 => ?_
        cases r2 with | cons a2 b2 => ?_
        obtain ⟨xs, e, f⟩ := pairsK_ok ⟨b1, b2⟩ e2
        obtain ⟨c, _⟩ := keyD_ok a1 e1
        exact ⟨(q, y) :: xs, by rw [List.map_cons, ← e, ← c], repF_cons.mpr ⟨rfl, a2, f⟩⟩
def mkDP (fp : FP) : FE := fun ρ η => (fp ρ η).bind fun ps η => match pairsK ps with
  | some kvs => if kvs.length ≤ 15 then .ok (.obj η.length) (η ++ [.dK (mergeD [] kvs)]) else .no
  | none => .no
theorem de_disp {pos : Pos} {keys : List (Option Expr)} {values : List Expr} (h : DP X W pos keys values fp) (hall : keys.all (·.isSome) = true := by rfl) (hl : keys.length = values.length := by rfl) (h0 : keys ≠ [] := by simp) (h15 : keys.length ≤ 15 := by decide) :
    DE X W (.Dict keys values pos) (mkDP fp) := by
  obtain ⟨trs, hp, m⟩ := h.ex
  refine PE.imp (pe_disp hp hall hl h0 h15) fun σ H Q ⟨w, ρ, η, rel, p⟩ => fun q hq => ?_
  obtain ⟨hb, eb⟩ := busy_new rel.heap hq (u := .dK []) ny_dK
  refine m _ _ _ ⟨_, ρ, η, ⟨rel.env.ext eb, hb⟩, ?_⟩
  unfold mkDP at p
  cases ef : fp ρ η with
  | no => rw [ef] at p; exact p.elim
  | exc x η1 =>
    rw [ef] at p
    intro c d w' H' ex hr rx
    exact p c d w' H' (eb.trans ex) hr rx
  | ok ps η1 =>
    rw [ef] at p
    intro vs w1 H1 e1 hr1 rp
    replace p : Post X.K (RepV X.K) w H Q (fun c d H' => W c d σ H') (match pairsK ps with
      | some kvs => if kvs.length ≤ 15 then .ok (.obj η1.length) (η1 ++ [.dK (mergeD [] kvs)]) else .no
      | none => .no) := p
    cases ek : pairsK ps with
    | none => rw [ek] at p; exact p.elim
    | some kvs =>
      rw [ek] at p
      dsimp only at p
      split at p
      case isFalse => exact p.elim
      rename_i hk
      obtain ⟨xs, ev, f⟩ := pairsK_ok rp ek
      have hb1 := (e1.bz q List.mem_cons_self).1
      have hH1 : H1 q = some (.dK []) := (e1.bz q List.mem_cons_self).2.trans upd_same
      refine ⟨hH1, xs, ev, by rw [repF_length f]; exact hk, ?_⟩
      have hr2 : HeapRel X.K w1 (upd H1 q (.dK (mergeK [] xs))) η1 := hr1.busy ny_dK hb1
      have f2 : RepF X.K w1 (upd H1 q (.dK (mergeK [] xs))) xs kvs := f.mv (Mv.busy hb1)
      exact busy_done (ob := .dK (mergeD [] kvs)) rel.heap hq ((eb.trans e1).busy hq (rel.heap.new hq).2) hb1 hr2 ⟨_, upd_same, repF_merge f2 repF_nil⟩ p
end
end Dn
/-! Dn part 33: the display {k: v} with a tuple for key; wishes of dicts. -/
namespace Dn
open PySem PySem.Spec PyProof.Rows L2
def tDispT (tk tv : TE) : TE := fun σ H Q => ∀ p, H p = none → tk σ (upd H p (.dT [])) fun x H1 => tv σ H1 fun y H2 => H2 p = some (.dT []) ∧ ∃ (ks : List Key) (b : Addr), x = .ref b ∧ H2 b = some (.tup (ks.map kV)) ∧ Q (.ref p) (upd H2 p (.dT [(ks, y)]))
section
variable {X : Cx}
theorem pe_dispT {k v : Expr} {pos : Pos} {tk tv : TE} (hu : X.A.units + 1 < cLine) (hk : PE X k tk) (hv : PE X v tv) : PE X (.Dict [some k] [v] pos) (tDispT tk tv) := by
  refine ⟨fun pins s σ H Q I q => ?_⟩
  have hn := I.hok.fresh (Nat.le_refl s.heap.objs.size)
  have I1 := I.laid (a := s.heap.objs.size) (o := .dT []) (h' := s.heap.push { cls := .type "dict", data := .dict #[] }) (t' := s.toks) (fun _ _ q => Heap.get?_push_of_some _ q) (Nat.le_refl _) (dt_empty s.heap I.big)
  rw [arm_eval_Dict, zip_pairTrees [some k] [v] X.env pos rfl rfl, dictDisplay_pairs (pairTrees [some k] [v] X.env pos) (by simp [pairTrees]) (by simp [pairTrees])]
  refine wpAny_bind (wpAny_standAt (wpAny_bind (wpAny_subDictH (knd := tupleKind (mixKind X.prog X.w)) (Q := fun d s' => wpAny (model X.prog X.w) X.A (pure (Value.ref d)) (EP X pins σ Q) X.xe s') ?_ (by simp [pairTrees]) ?_)))
  · show X.A.units < cLine
    omega
  refine pairTrees_cons_walk (thn (hk.run pins _ σ _ _ I1 (q _ hn)) fun u s1 ⟨x, H1, I2, rx, q1⟩ => thn (hv.run pins s1 σ H1 _ I2 q1) fun u2 s2 ⟨y, H2, I3, ry, e, ks, b, ex, eb, q2⟩ => ?_)
  subst ex
  obtain rfl : u = Value.ref b := rx
  refine pairTrees_nil_walk ?_
  obtain ⟨z, hd, xs, rel, dd⟩ := dt_of I3.hok e
  cases rel
  refine ⟨[(ks, b, u2)], ⟨rfl, rfl, key_of I3.hok eb, trivial⟩, dd, fun h' tk' dd' hs => wpAny_pure ⟨.ref s.heap.objs.size, _, ?_, rfl, q2⟩⟩
  obtain ⟨q', es, ep, hq, h2, h3, h4, _, h5⟩ := dd'
  have rel : L2.KT H2 [] [] := .nil
  refine d_write I3 (by rw [e]; exact True.intro) hs ⟨q', hq⟩ ⟨by show 1 ≤ sizeLine; rw [sizeLine_eq]; omega, hd, _, (rel.put ks eb ry).keeps fun c ys ec => ?_, q', es, ep, hq, h2, h3, h4, h5⟩
  rw [upd_ne (ne_of ec e (fun z => nomatch z))]
  exact ec
/-- {k: v}, the key a tuple -/
def mkDT1 (fk fv : FE) : FE := fun ρ η => (fk ρ η).bind fun k η => (fv ρ η).bind fun v η => match keysD k with
  | some ks => .ok (.obj η.length) (η ++ [.dT [(ks, v)]])
  | none => .no
theorem de_dispT {W : WX} {k v : Expr} {pos : Pos} {fk fv : FE} (hu : X.A.units + 1 < cLine) (hk : DE X W k fk) (hv : DE X W v fv) : DE X W (.Dict [some k] [v] pos) (mkDT1 fk fv) :=
  PE.imp (pe_dispT hu hk hv) fun σ H Q ⟨w, ρ, η, rel, p⟩ => fun q hq => by
    obtain ⟨hb, eb⟩ := busy_new rel.heap hq (u := .dT []) ny_dT
    have rel0 : Rel X.K ⟨w.io, q :: w.bz⟩ σ (upd H q (.dT [])) ρ η := ⟨rel.env.ext eb, hb⟩
    have hnb := (rel.heap.new hq).2
    unfold mkDT1 at p
    refine ⟨_, ρ, η, rel0, ?_⟩
    cases e1 : fk ρ η with
    | no => rw [e1] at p; exact p.elim
    | exc x η1 =>
      rw [e1] at p
      exact fun c d w' H' ex hr rx => p c d w' H' (eb.trans ex) hr rx
    | ok d1 η1 =>
      rw [e1] at p
      intro x w1 H1 ex1 hr1 rx
      refine ⟨w1, ρ, η1, ⟨rel0.env.ext ex1, hr1⟩, ?_⟩
      replace p : Post X.K (RepV X.K) w H Q (fun c d H' => W c d σ H') ((fv ρ η1).bind fun v η => match keysD d1 with
        | some ks => .ok (.obj η.length) (η ++ [.dT [(ks, v)]])
        | none => .no) := p
      cases e2 : fv ρ η1 with
      | no => rw [e2] at p; exact p.elim
      | exc x η2 =>
        rw [e2] at p
        exact fun c d w' H' ex hr rx => p c d w' H' ((eb.trans ex1).trans ex) hr rx
      | ok d2 η2 =>
        rw [e2] at p
        intro y w2 H2 ex2 hr2 ry
        replace p : Post X.K (RepV X.K) w H Q (fun c d H' => W c d σ H') (match keysD d1 with
          | some ks => .ok (.obj η2.length) (η2 ++ [.dT [(ks, d2)]])
          | none => .no) := p
        cases ek : keysD d1 with
        | none => rw [ek] at p; exact p.elim
        | some ks =>
          rw [ek] at p
          have hb2 := ((ex1.trans ex2).bz q List.mem_cons_self).1
          have hH2 : H2 q = some (.dT []) := ((ex1.trans ex2).bz q List.mem_cons_self).2.trans upd_same
          obtain ⟨b, e3, eb3, _⟩ := keysD_ok (rx.ext ex2) ek
          refine ⟨hH2, ks, b, e3, eb3, ?_⟩
          have hr3 : HeapRel X.K w2 (upd H2 q (.dT [(ks, y)])) η2 := hr2.busy ny_dT hb2
          have ry3 : RepV X.K w2 (upd H2 q (.dT [(ks, y)])) y d2 := ry.mv (Mv.busy hb2)
          exact busy_done (ob := .dT [(ks, d2)]) rel.heap hq (((eb.trans ex1).trans ex2).busy hq hnb) hb2 hr3 ⟨_, upd_same, repF_cons.mpr ⟨rfl, ry3, repF_nil⟩⟩ p
end
section
variable {fk fv : FE} {fp : FP} {ρ : Env} {η : Store} {QD : D → Store → Prop} {QP : List (D × D) → Store → Prop} {E : Ex → Store → Prop}
@[simp] theorem w_pNil : wpR (pNil ρ η) QP E ↔ QP [] η := Iff.rfl
@[simp] theorem w_pCons : wpR (pCons fk fv fp ρ η) QP E ↔ wpR (fk ρ η) (fun k η => wpR (fv ρ η) (fun v η => wpR (fp ρ η) (fun ps η => QP ((k, v) :: ps) η) E) E) E := by
  unfold pCons
  rw [wpR_bind]
  refine wpR_congr fun k η => ?_
  rw [wpR_bind]
  refine wpR_congr fun v η => ?_
  rw [wpR_bind]
  exact wpR_congr fun ps η => Iff.rfl
@[simp] theorem w_mkDP : wpR (mkDP fp ρ η) QD E ↔ wpR (fp ρ η) (fun ps η => wpO (pairsK ps) fun kvs => kvs.length ≤ 15 ∧ QD (.obj η.length) (η ++ [.dK (mergeD [] kvs)])) E := by
  unfold mkDP
  rw [wpR_bind]
  refine wpR_congr fun ps η => ?_
  cases pairsK ps with
  | none => exact Iff.rfl
  | some kvs =>
    show wpR (if kvs.length ≤ 15 then _ else _) QD E ↔ _
    by_cases h : kvs.length ≤ 15
    · rw [if_pos h]; exact ⟨fun q => ⟨h, q⟩, fun q => q.2⟩
    · rw [if_neg h]; exact ⟨fun q => q.elim, fun q => h q.1⟩
@[simp] theorem w_mkDT1 : wpR (mkDT1 fk fv ρ η) QD E ↔ wpR (fk ρ η) (fun k η => wpR (fv ρ η) (fun v η => wpO (keysD k) fun ks => QD (.obj η.length) (η ++ [.dT [(ks, v)]])) E) E := by
  unfold mkDT1
  rw [wpR_bind]
  refine wpR_congr fun k η => ?_
  rw [wpR_bind]
  refine wpR_congr fun v η => ?_
  cases keysD k <;> exact Iff.rfl
end
end Dn
/-! Dn part 34: more methods. -/
namespace Dn
open PySem PySem.Spec PyProof.Rows L2
section
variable {X : Cx} {K : PySem.W.Frag} {w : Wd} {H : Hp}
def startsD : D → GL := fun d ds η => match d, ds with
  | .str a, [.str b] => some (.bl (Txt.startswith a b), η)
  | _, _ => none
theorem mtD_startswith : MtR X "str.startswith" (rdM X.K startsD) := mt_of (id := "str.startswith") mt_startswith fun {x xs H Q w η d ds z η'} hr q r h p => by
  unfold startsD at h
  split at h
  · rename_i a b
    cases h; cases q
    cases r with | cons r1 r2 => ?_
    cases r2; cases r1
    exact ⟨_, _, rfl, rfl, val_of p hr (.bl _)⟩
  · cases h
theorem reps_take : ∀ (n : Nat) {vs : List V} {ds : List D}, RepVs K w H vs ds → RepVs K w H (vs.take n) (ds.take n)
  | 0, _, _, _ => .nil
  | n + 1, _, _, .nil => .nil
  | n + 1, _, _, .cons a b => .cons a (reps_take n b)
theorem reps_drop : ∀ (n : Nat) {vs : List V} {ds : List D}, RepVs K w H vs ds → RepVs K w H (vs.drop n) (ds.drop n)
  | 0, _, _, h => h
  | n + 1, _, _, .nil => .nil
  | n + 1, _, _, .cons a b => reps_drop n b
def insD : D → GL := fun d ds η => match ds with
  | [.int i, y] => (match objL d η with
    | some (k, xs) => if xs.length < sizeLine ∧ 0 ≤ i ∧ i < 2 ^ 63 then some (.non, η.set k (.lst (xs.take i.toNat ++ [y] ++ xs.drop i.toNat))) else none
    | none => none)
  | _ => none
theorem mtD_insert : MtR X "list.insert" (rdM X.K insD) := mt_of (id := "list.insert") mt_insert fun hr q r h p => by
  unfold insD at h
  split at h
  · split at h
    · rename_i k xs eo
      split at h
      · rename_i hl
        cases h
        obtain ⟨a, ys, rfl, ha, eH, ry⟩ := objL_ok hr q eo
        obtain ⟨x1, xs1, rfl, q1, q2⟩ := reps_cons r
        obtain ⟨x2, xs2, rfl, q3, q4⟩ := reps_cons q2
        obtain rfl := reps_nil q4
        cases q1
        exact ⟨a, ys, _, x2, rfl, rfl, eH, by rw [ry.length]; exact hl.1, hl.2.1, hl.2.2, wr_of p hr ha (((reps_take _ ry).append (.one q3)).append (reps_drop _ ry)) .non⟩
      · cases h
    · cases h
  · cases h
end
end Dn
/-! Dn part 35: a dict of the module: texts to ints. -/
namespace Dn
open PySem PySem.Spec PyProof.Rows L2
def kdE : List (Str × Int) → List DictEntry → Bool
  | [], [] => true
  | (x, i) :: r, e :: es => (match e.key with
    | .str y _ => decide (y = x)
    | _ => false) && ((match e.val with
    | .int j _ => decide (j = i)
    | _ => false) && kdE r es)
  | _, _ => false
def kdB (K : PySem.W.Frag) (x : Str) (kvs : List (Str × Int)) : Bool := match K.lookup (He.ga K x) with
  | some ⟨_, _, .dict es _, _⟩ => kdE kvs es.toList
  | _ => false
theorem kdE_find (z : Str) : ∀ {kvs : List (Str × Int)} {es : List DictEntry}, kdE kvs es = true → (match kvs.lookup z with
    | some i => ∃ e t, es.find? (·.key.isStr z) = some e ∧ e.val = .int i t
    | none => es.find? (·.key.isStr z) = none) ∧ es.any (·.refKey) = false
  | [], [], _ => ⟨rfl, rfl⟩
  | [], _ :: _, h => by cases h
  | _ :: _, [], h => by cases h
  | (x, i) :: r, e :: es, h => by
    unfold kdE at h
    simp only [Bool.and_eq_true] at h
    obtain ⟨h1, h2, h3⟩ := h
    obtain ⟨ih1, ih2⟩ := kdE_find z h3
    obtain ⟨eh, ek, ev⟩ := e
    dsimp only at h1 h2
    cases ek with
    | str y ty =>
      cases ev with
      | int j tj =>
        have e1 : y = x := of_decide_eq_true h1
        have e2 : j = i := of_decide_eq_true h2
        subst e1 e2
        refine ⟨?_, ?_⟩
        · by_cases hz : z = y
          · subst hz
            have l1 : ((z, j) :: r).lookup z = some j := by rw [List.lookup_cons, beq_self_eq_true]
            rw [l1]
            refine ⟨⟨eh, .str z ty, .int j tj⟩, tj, ?_, rfl⟩
            rw [List.find?_cons]
            have : (Value.str z ty).isStr z = true := by show (z == z) = true; exact beq_self_eq_true z
            rw [this]
          · have l1 : ((y, j) :: r).lookup z = r.lookup z := by
              rw [List.lookup_cons]
              have : (z == y) = false := beq_eq_false_iff_ne.mpr hz
              rw [this]
            have f1 : ((⟨eh, .str y ty, .int j tj⟩ : DictEntry) :: es).find? (·.key.isStr z) = es.find? (·.key.isStr z) := by
              rw [List.find?_cons]
              have : (Value.str y ty).isStr z = false := by
                show (y == z) = false
                exact beq_eq_false_iff_ne.mpr fun q => hz q.symm
              rw [this]
            rw [l1, f1]
            exact ih1
        · rw [List.any_cons, ih2]; rfl
      | _ => cases h2
    | _ => cases h1
theorem kdB_ns {K : PySem.W.Frag} {x : Str} {kvs : List (Str × Int)} (h : kdB K x kvs = true) (z : Str) : match kvs.lookup z with
    | some i => ∃ t, PySem.W.nsIn K (He.ga K x) z = some (some (.int i t))
    | none => PySem.W.nsIn K (He.ga K x) z = some none := by
  unfold kdB at h
  unfold PySem.W.nsIn
  split at h
  · rename_i es _ _ e
    rw [e]
    dsimp only
    obtain ⟨h1, h2⟩ := kdE_find z h
    cases el : kvs.lookup z with
    | none =>
      rw [el] at h1
      dsimp only at h1 ⊢
      rw [h1, h2]
      rfl
    | some i =>
      rw [el] at h1
      dsimp only at h1 ⊢
      obtain ⟨en, t, f, v⟩ := h1
      rw [f]
      refine ⟨t, ?_⟩
      show some (some en.val) = _
      rw [v]
  · cases h
section
variable {X : Cx} {x : Str} {kvs : List (Str × Int)}
/-- z in x, x a dict of the module -/
def inKd (x : Str) (kvs : List (Str × Int)) : G2 := fun d p η => match d, p with
  | .str z, .gl q => if q = x then some (.bl (kvs.lookup z).isSome, η) else none
  | _, _ => none
def notInKd (x : Str) (kvs : List (Str × Int)) : G2 := fun d p η => match d, p with
  | .str z, .gl q => if q = x then some (.bl (!(kvs.lookup z).isSome), η) else none
  | _, _ => none
def ixKd (x : Str) (kvs : List (Str × Int)) : G2 := fun p d η => match p, d with
  | .gl q, .str z => if q = x then (match kvs.lookup z with
    | some i => some (.int i, η)
    | none => none) else none
  | _, _ => none
theorem opD_inK (D : ∃ es n, KDict X.K X.w (He.ga X.K x) es n) (h : kdB X.K x kvs = true) : OpR X (compareOp .In) (rd2 X.K (inKd x kvs)) := by
  obtain ⟨es, n, D⟩ := D
  refine op_of (op_in_kd D) fun hr r1 r2 e p => ?_
  unfold inKd at e
  split at e
  · rename_i z q
    split at e
    · rename_i hq
      cases e; subst hq
      cases r1; cases r2
      have hk := kdB_ns h z
      cases el : kvs.lookup z with
      | none => rw [el] at hk p; exact ⟨z, none, rfl, rfl, hk, val_of p hr (.bl _)⟩
      | some i => rw [el] at hk p; obtain ⟨t, hk⟩ := hk; exact ⟨z, some _, rfl, rfl, hk, val_of p hr (.bl _)⟩
    · cases e
  · cases e
theorem opD_notInK (D : ∃ es n, KDict X.K X.w (He.ga X.K x) es n) (h : kdB X.K x kvs = true) : OpR X (compareOp .NotIn) (rd2 X.K (notInKd x kvs)) := by
  obtain ⟨es, n, D⟩ := D
  refine op_of (op_notIn_kd D) fun hr r1 r2 e p => ?_
  unfold notInKd at e
  split at e
  · rename_i z q
    split at e
    · rename_i hq
      cases e; subst hq
      cases r1; cases r2
      have hk := kdB_ns h z
      cases el : kvs.lookup z with
      | none => rw [el] at hk p; exact ⟨z, none, rfl, rfl, hk, val_of p hr (.bl _)⟩
      | some i => rw [el] at hk p; obtain ⟨t, hk⟩ := hk; exact ⟨z, some _, rfl, rfl, hk, val_of p hr (.bl _)⟩
    · cases e
  · cases e
theorem ixD_K (D : ∃ es n, KDict X.K X.w (He.ga X.K x) es n) (h : kdB X.K x kvs = true) : IxR X (rd2 X.K (ixKd x kvs)) := by
  obtain ⟨es, n, D⟩ := D
  refine ix_of ix_kdict fun hr r1 r2 e p => ?_
  unfold ixKd at e
  split at e
  · rename_i q z
    split at e
    · rename_i hq
      subst hq
      cases r1; cases r2
      have hk := kdB_ns h z
      cases el : kvs.lookup z with
      | none => rw [el] at e; cases e
      | some i =>
        rw [el] at hk e
        cases e
        obtain ⟨t, hk⟩ := hk
        exact ⟨_, z, .int i, rfl, rfl, ⟨es, n, _, D.at_, D.lit, hk, ⟨t, rfl⟩⟩, val_of p hr (.int _)⟩
    · cases e
  · cases e
end
end Dn
/-! Dn part 36: d.get. -/
namespace Dn
open PySem PySem.Spec PyProof.Rows L2
section
variable {X : Cx} {W : WX} {K : PySem.W.Frag} {w w1 : Wd} {σ : L2.St} {H H1 : Hp} {ρ : Env} {η η1 : Store} {fo fe ff : FE} {o e f : Expr} {apos cpos : Pos}
def isDct (x : D) (η : Store) : Bool := match x with
  | .obj k => (match η[k]? with
    | some (.dK _) => true
    | some (.dT _) => true
    | _ => false)
  | _ => false
theorem isDct_ok {v : V} {x : D} (hr : HeapRel K w H η) (r : RepV K w H v x) (h : isDct x η = true) : ∃ a, v = .ref a ∧ IsD H a := by
  cases x with
  | obj k =>
    cases r with | obj ha => ?_
    unfold isDct at h
    dsimp only at h
    cases eo : η[k]? with
    | none => rw [eo] at h; cases h
    | some ob =>
      rw [eo] at h
      cases ob with
      | dK kvs => obtain ⟨xs, e, _⟩ := hr.at_ _ _ _ ha eo; exact ⟨_, rfl, .inl ⟨_, .inl e⟩⟩
      | dT kvs => obtain ⟨xs, e, _⟩ := hr.at_ _ _ _ ha eo; exact ⟨_, rfl, .inr ⟨_, .inl e⟩⟩
      | _ => cases h
  | _ => cases h
def eGet1 (fo fe : FE) : FE := fun ρ η => (fo ρ η).bind fun x η => if isDct x η = true then (fe ρ η).bind fun i η => (match dget x i η with
  | some (some d) => .ok d η
  | some none => .ok .non η
  | none => .no) else .no
def eGet2 (fo fe ff : FE) : FE := fun ρ η => (fo ρ η).bind fun x η => if isDct x η = true then (fe ρ η).bind fun i η => (ff ρ η).bind fun z η => (match dget x i η with
  | some (some d) => .ok d η
  | some none => .ok z η
  | none => .no) else .no
theorem de_get2 (hu : X.A.units + 1 < cLine) (ho : DE X W o fo) (he : DE X W e fe) (hf : DE X W f ff) (m : M2 X o "get" apos e f cpos) : DE X W (.Call (.Attribute o "get" apos) [e, f] [] cpos) (eGet2 fo fe ff) :=
  PE.imp (pe_dget2 hu ho he hf m) fun σ H Q ⟨w, ρ, η, rel, p⟩ => by
    refine (rdE_then rel p).imp fun v H1 ⟨w1, d1, η1, e1, rel1, r1, p1⟩ => ?_
    split at p1
    case isFalse => exact p1.elim
    rename_i hd
    obtain ⟨a, ev, id⟩ := isDct_ok rel1.heap r1 hd
    refine ⟨a, ev, id, ?_⟩
    refine (rdE_then rel1 p1).imp fun u H2 ⟨w2, d2, η2, e2, rel2, r2, p2⟩ => ?_
    refine (rdE_then rel2 p2).imp fun z H3 ⟨w3, d3, η3, e3, rel3, r3, p3⟩ => ?_
    cases eg : dget d1 d2 η3 with
    | none => rw [eg] at p3; exact p3.elim
    | some oo =>
      rw [eg] at p3
      obtain ⟨a', ov, ev', g, g1, g2⟩ := dget_ok rel3.heap ((r1.ext e2).ext e3) (r2.ext e3) eg
      rw [ev] at ev'
      cases ev'
      refine ⟨ov, g, ?_⟩
      cases oo with
      | none => rw [g1 rfl]; exact p3 z w3 H3 .refl rel3.heap r3
      | some d => obtain ⟨y, e4, ry⟩ := g2 d rfl; rw [e4]; exact p3 y w3 H3 .refl rel3.heap ry
theorem de_get1 (hu : X.A.units + 1 < cLine) (ho : DE X W o fo) (he : DE X W e fe) (m : M1 X o "get" apos e cpos) : DE X W (.Call (.Attribute o "get" apos) [e] [] cpos) (eGet1 fo fe) :=
  PE.imp (pe_dget1 hu ho he m) fun σ H Q ⟨w, ρ, η, rel, p⟩ => by
    refine (rdE_then rel p).imp fun v H1 ⟨w1, d1, η1, e1, rel1, r1, p1⟩ => ?_
    split at p1
    case isFalse => exact p1.elim
    rename_i hd
    obtain ⟨a, ev, id⟩ := isDct_ok rel1.heap r1 hd
    refine ⟨a, ev, id, ?_⟩
    refine (rdE_then rel1 p1).imp fun u H2 ⟨w2, d2, η2, e2, rel2, r2, p2⟩ => ?_
    cases eg : dget d1 d2 η2 with
    | none => rw [eg] at p2; exact p2.elim
    | some oo =>
      rw [eg] at p2
      obtain ⟨a', ov, ev', g, g1, g2⟩ := dget_ok rel2.heap (r1.ext e2) r2 eg
      rw [ev] at ev'
      cases ev'
      refine ⟨ov, g, ?_⟩
      cases oo with
      | none => rw [g1 rfl]; exact p2 .non w2 H2 .refl rel2.heap .non
      | some d => obtain ⟨y, e4, ry⟩ := g2 d rfl; rw [e4]; exact p2 y w2 H2 .refl rel2.heap ry
end
end Dn
/-! Dn part 37: enumerate(zip(x, y)) over lists. -/
namespace Dn
open PySem PySem.Spec PyProof.Rows L2
section
variable {prog : Program} {w : World} {A : Around} {E : Value → Shared → Prop} {s : Shared}
theorem alive_none {a : Addr} {Q : Option Obj → Shared → Prop} (ho : s.heap.get? a = none) (h : Q none s) : wpAny (model prog w) A (loadIfAlive a) Q E s := by
  have q : Q (s.heap.get? a) s := by rw [ho]; exact h
  exact fun _ _ _ => q
abbrev zipO (f0 : Value) (fb : Bool) (TI TO : Addr) : Obj := { cls := .type "zip", dict := none, data := .fields #[f0, .bool fb, .bool false, .ref TI, .ref TO], slots := #[] }
abbrev ZipF (h : Heap) (z TI TO : Addr) (f0 : Value) (fb : Bool) : Prop := h.get? z = some (zipO f0 fb TI TO)
theorem free_gone {z TI TO T : Addr} {fb : Bool} {Q : Bool → Shared → Prop} (hz : IsZipHeld s.heap z TI TO T fb) (gone : s.heap.get? T = none) (h : Q true s) : wpAny (model prog w) A (Builtin.SmallTypes.ownedTupleIsFree (.ref z)) Q E s := by
  unfold Builtin.SmallTypes.ownedTupleIsFree
  refine wpAny_bind (wpAny_field hz rfl (x := rawInt T) rfl ?_)
  show wpAny _ _ (loadIfAlive ((T : Int).toNat) >>= _) _ _ _
  rw [Int.toNat_natCast]
  refine wpAny_bind (alive_none gone ?_)
  exact wpAny_pure h
theorem gone_item {z TI TO T i1 i2 l1 l2 : Addr} {fb : Bool} {k1 k2 : Nat} {xs ys : Array Value} {x y a b : Value} {Q : Value → Shared → Prop} (D : ZipApart z TI TO i1 i2 l1 l2)
    (hz : IsZipHeld s.heap z TI TO T fb) (gone : s.heap.get? T = none) (ti : IsPair s.heap TI (.ref i1) (.ref i2)) (tO : IsPair s.heap TO a b)
    (q1 : s.heap.IsListIter i1 l1 k1) (q2 : s.heap.IsListIter i2 l2 k2) (p1 : s.heap.IsList l1 xs) (p2 : s.heap.IsList l2 ys) (ex : xs[k1]? = some x) (ey : ys[k2]? = some y)
    (hQ : ∀ g : Heap, IsZip g z TI TO (rawInt s.heap.objs.size) → IsPair g TO x y → g.IsListIter i1 l1 (k1 + 1) → g.IsListIter i2 l2 (k2 + 1) → IsPair g s.heap.objs.size x y → g.objs.size = s.heap.objs.size + 1 →
      (∀ c o, c ≠ z → c ≠ TO → c ≠ i1 → c ≠ i2 → s.heap.get? c = some o → g.get? c = some o) → Q (.ref s.heap.objs.size) { s with heap := g }) :
    wpAny (model prog w) A (Builtin.«zip.__next__» ⟨[.ref z], []⟩) (fun fin t => ∃ v, fin = .done (.ret v) ∧ Q v t) E s := by
  show wpAny _ _ (field (.ref z) 2 >>= _) _ _ _
  refine wpAny_bind (wpAny_field hz rfl (x := .bool false) rfl ?_)
  show wpAny _ _ (field (.ref z) 3 >>= _) _ _ _
  refine wpAny_bind (wpAny_field hz rfl (x := .ref TI) rfl ?_)
  refine wpAny_bind (wpAny_seqItems ti rfl ?_)
  show wpAny _ _ (Builtin.SmallTypes.ownedTupleIsFree (.ref z) >>= _) _ _ _
  refine wpAny_bind (free_gone hz gone ?_)
  simp only [if_true]
  refine wpAny_bind (wpAny_rule (wpAny_bind (wpAny_field hz rfl (x := .ref TO) rfl (wpAny_bind (wpAny_setField_rec hz (by simp) fun g1 z1 s1 => ?_)))))
  have w1 : ZipF g1 z TI TO .ellipsis fb := z1
  refine wpAny_bind ?_
  simp only [List.zipIdx_cons, List.zipIdx_nil, List.forIn_cons, List.forIn_nil]
  refine wpAny_bind (wpAny_bind (wpAny_onRaise ?_))
  show wpAny _ _ (Builtin.SmallTypes.nextOf (.ref i1) >>= _) _ _ _
  have u1 := fun c (n : c ≠ z) (o : Obj) (e : s.heap.get? c = some o) => s1.extBut c o n e
  refine wpAny_bind (wpAny_nextOf_list_item (q1.at (u1 _ D.i1z)) (p1.at (u1 _ D.l1z)) ex fun g2 r1 s2 => wpAny_pure ?_)
  have u2 := fun c (n : c ≠ z) (m : c ≠ i1) (o : Obj) (e : s.heap.get? c = some o) => s2.extBut c o m (u1 c n o e)
  have t2 : IsPair g2 TO a b := u2 _ D.TOz D.TOi1 _ tO
  refine wpAny_bind (wpAny_seqItems t2 rfl (wpAny_bind (wpAny_updateSeq_pair t2 fun g3 t3 s3 => ?_)))
  have t3' : IsPair g3 TO x b := t3
  refine wpAny_bind (wpAny_letGo (wpAny_pure (wpAny_bind (wpAny_bind (wpAny_onRaise ?_)))))
  show wpAny _ _ (Builtin.SmallTypes.nextOf (.ref i2) >>= _) _ _ _
  have u3 := fun c (n : c ≠ z) (m : c ≠ i1) (k : c ≠ TO) (o : Obj) (e : s.heap.get? c = some o) => s3.extBut c o k (u2 c n m o e)
  refine wpAny_bind (wpAny_nextOf_list_item (q2.at (u3 _ D.i2z D.i12.symm D.TOi2.symm)) (p2.at (u3 _ D.l2z D.l2i1 D.l2TO)) ey fun g4 r2 s4 => wpAny_pure ?_)
  have t4 : IsPair g4 TO x b := s4.extBut _ _ D.TOi2 t3'
  refine wpAny_bind (wpAny_seqItems t4 rfl (wpAny_bind (wpAny_updateSeq_pair t4 fun g5 t5 s5 => ?_)))
  have t5' : IsPair g5 TO x y := t5
  refine wpAny_bind (wpAny_letGo (wpAny_pure (wpAny_pure ?_)))
  refine wpAny_bind (wpAny_seqItems t5' rfl (wpAny_bind (wpAny_newTuple ?_)))
  have sz : g5.objs.size = s.heap.objs.size := by rw [s5.1, s4.1, s3.1, s2.1, s1.1]
  have w5 : ZipF g5 z TI TO .ellipsis fb := s5.extBut _ _ D.TOz.symm (s4.extBut _ _ D.i2z.symm (s3.extBut _ _ D.TOz.symm (s2.extBut _ _ D.i1z.symm w1)))
  have u5 := fun c (n : c ≠ z) (k : c ≠ TO) (m : c ≠ i1) (j : c ≠ i2) (o : Obj) (e : s.heap.get? c = some o) => s5.extBut c o k (s4.extBut c o j (u3 c n m k o e))
  have r15 : g5.IsListIter i1 l1 (k1 + 1) := r1.at fun o e => s5.extBut _ o D.TOi1.symm (s4.extBut _ o D.i12 (s3.extBut _ o D.TOi1.symm e))
  have r25 : g5.IsListIter i2 l2 (k2 + 1) := r2.at fun o e => s5.extBut _ o D.TOi2.symm e
  have zl : z < g5.objs.size := Heap.lt_size w5
  show wpAny _ _ (Builtin.SmallTypes.ownedTupleHandOut (.ref z) (.ref g5.objs.size) >>= _) _ _ _
  refine wpAny_bind ?_
  unfold Builtin.SmallTypes.ownedTupleHandOut
  have w6 : ZipF (g5.push { cls := .type "tuple", data := .seq #[x, y] }) z TI TO .ellipsis fb := Heap.get?_push_of_some _ w5
  refine wpAny_bind (wpAny_setField_rec w6 (by simp) fun g7 z7 s7 => ?_)
  have w7 : ZipF g7 z TI TO (rawInt g5.objs.size) fb := z7
  refine wpAny_setField_rec w7 (by simp) fun g8 z8 s8 => ?_
  have w8 : IsZip g8 z TI TO (rawInt g5.objs.size) := z8
  have up := fun c (n : c ≠ z) (o : Obj) (e : g5.get? c = some o) => s8.extBut c o n (s7.extBut c o n (Heap.get?_push_of_some _ e))
  have p8 : IsPair g8 g5.objs.size x y := s8.extBut _ _ (Nat.ne_of_gt zl) (s7.extBut _ _ (Nat.ne_of_gt zl) (Heap.get?_push_size _ rfl))
  have sz8 : g8.objs.size = g5.objs.size + 1 := by rw [s8.1, s7.1, Heap.size_push]
  rw [sz] at w8 p8 sz8
  refine wpAny_pure ⟨_, rfl, ?_⟩
  show Q (.ref g5.objs.size) _
  rw [sz]
  exact hQ g8 w8 (up _ D.TOz _ t5') (r15.at fun o e => up _ D.i1z o e) (r25.at fun o e => up _ D.i2z o e) p8 sz8 fun c o n k m j e => up c n o (u5 c n k m j o e)
theorem gone_end {z TI TO T i1 i2 l1 l2 : Addr} {fb : Bool} {k1 k2 : Nat} {xs ys : Array Value} {a b : Value} {Q : Fin → Shared → Prop} (hh : A.handled = none) (D : ZipApart z TI TO i1 i2 l1 l2)
    (hz : IsZipHeld s.heap z TI TO T fb) (gone : s.heap.get? T = none) (ti : IsPair s.heap TI (.ref i1) (.ref i2)) (tO : IsPair s.heap TO a b)
    (q1 : s.heap.IsListIter i1 l1 k1) (q2 : s.heap.IsListIter i2 l2 k2) (p1 : s.heap.IsList l1 xs) (p2 : s.heap.IsList l2 ys) (no : xs[k1]? = none ∨ ys[k2]? = none)
    (hE : ∀ (g : Heap) e, (∀ c o, c ≠ z → c ≠ TO → c ≠ i1 → c ≠ i2 → s.heap.get? c = some o → g.get? c = some o) → (∃ o, g.get? e = some o ∧ o.cls = .type "StopIteration") → E (.ref e) { s with heap := g }) :
    wpAny (model prog w) A (Builtin.«zip.__next__» ⟨[.ref z], []⟩) Q E s := by
  show wpAny _ _ (field (.ref z) 2 >>= _) _ _ _
  refine wpAny_bind (wpAny_field hz rfl (x := .bool false) rfl ?_)
  show wpAny _ _ (field (.ref z) 3 >>= _) _ _ _
  refine wpAny_bind (wpAny_field hz rfl (x := .ref TI) rfl (wpAny_bind (wpAny_seqItems ti rfl ?_)))
  show wpAny _ _ (Builtin.SmallTypes.ownedTupleIsFree (.ref z) >>= _) _ _ _
  refine wpAny_bind (free_gone hz gone ?_)
  simp only [if_true]
  refine wpAny_bind (wpAny_rule (wpAny_bind (wpAny_field hz rfl (x := .ref TO) rfl (wpAny_bind (wpAny_setField_rec hz (by simp) fun g1 z1 s1 => ?_)))))
  have w1 : ZipF g1 z TI TO .ellipsis fb := z1
  refine wpAny_bind ?_
  simp only [List.zipIdx_cons, List.zipIdx_nil, List.forIn_cons, List.forIn_nil]
  refine wpAny_bind (wpAny_bind (wpAny_onRaise ?_))
  show wpAny _ _ (Builtin.SmallTypes.nextOf (.ref i1) >>= _) _ _ _
  have u1 := fun c (n : c ≠ z) (o : Obj) (e : s.heap.get? c = some o) => s1.extBut c o n e
  cases ex : xs[k1]? with
  | none =>
    refine wpAny_bind (wpAny_nextOf_list_end hh (q1.at (u1 _ D.i1z)) (p1.at (u1 _ D.l1z)) ex fun g2 er s2 ⟨oe, he, ce⟩ => ?_)
    have w2 : ZipF g2 z TI TO .ellipsis fb := s2 _ _ D.i1z.symm w1
    have ne : er ≠ z := fun q => by subst q; rw [w2] at he; cases he; simp at ce
    exact wpAny_setField_rec w2 (by simp) fun g3 _ s3 => hE g3 er (fun c o n _ m _ e => s3.extBut _ _ n (s2 _ _ m (u1 c n o e))) ⟨oe, s3.extBut _ _ ne he, ce⟩
  | some x =>
    have ey : ys[k2]? = none := by rcases no with h | h; rw [ex] at h; cases h; exact h
    refine wpAny_bind (wpAny_nextOf_list_item (q1.at (u1 _ D.i1z)) (p1.at (u1 _ D.l1z)) ex fun g2 r1 s2 => wpAny_pure ?_)
    have u2 := fun c (n : c ≠ z) (m : c ≠ i1) (o : Obj) (e : s.heap.get? c = some o) => s2.extBut c o m (u1 c n o e)
    have t2 : IsPair g2 TO a b := u2 _ D.TOz D.TOi1 _ tO
    refine wpAny_bind (wpAny_seqItems t2 rfl (wpAny_bind (wpAny_updateSeq_pair t2 fun g3 t3 s3 => ?_)))
    refine wpAny_bind (wpAny_letGo (wpAny_pure (wpAny_bind (wpAny_bind (wpAny_onRaise ?_)))))
    show wpAny _ _ (Builtin.SmallTypes.nextOf (.ref i2) >>= _) _ _ _
    have u3 := fun c (n : c ≠ z) (m : c ≠ i1) (k : c ≠ TO) (o : Obj) (e : s.heap.get? c = some o) => s3.extBut c o k (u2 c n m o e)
    refine wpAny_bind (wpAny_nextOf_list_end hh (q2.at (u3 _ D.i2z D.i12.symm D.TOi2.symm)) (p2.at (u3 _ D.l2z D.l2i1 D.l2TO)) ey fun g4 er s4 ⟨oe, he, ce⟩ => ?_)
    have w4 : ZipF g4 z TI TO .ellipsis fb := s4 _ _ D.i2z.symm (s3.extBut _ _ D.TOz.symm (s2.extBut _ _ D.i1z.symm w1))
    have ne : er ≠ z := fun q => by subst q; rw [w4] at he; cases he; simp at ce
    exact wpAny_setField_rec w4 (by simp) fun g5 _ s5 => hE g5 er (fun c o n k m j e => s5.extBut _ _ n (s4 _ _ j (u3 c n m k o e))) ⟨oe, s5.extBut _ _ ne he, ce⟩
/-- a zip of two lists at its i-th turn, whatever became of the pair ahead -/
structure ZS (h : Heap) (z TI TO i1 i2 l1 l2 : Addr) (i : Nat) : Prop where
  z : IsZip h z TI TO .none ∨ ∃ (T : Addr) (fb : Bool), IsZipHeld h z TI TO T fb
  ti : IsPair h TI (.ref i1) (.ref i2)
  tO : ∃ a b, IsPair h TO a b
  a : h.IsListIter i1 l1 i
  b : h.IsListIter i2 l2 i
theorem ZS.typ {z TI TO i1 i2 l1 l2 : Addr} {i : Nat} (S : ZS s.heap z TI TO i1 i2 l1 l2 i) : s.TypeIs (.ref z) "zip" := by
  rcases S.z with h | ⟨T, fb, h⟩
  · exact ⟨_, h, rfl⟩
  · exact ⟨_, h, rfl⟩
theorem zs_item {z TI TO i1 i2 l1 l2 : Addr} {i : Nat} {xs ys : Array Value} {x y : Value} {Q : Value → Shared → Prop} (D : ZipApart z TI TO i1 i2 l1 l2) (S : ZS s.heap z TI TO i1 i2 l1 l2 i)
    (p1 : s.heap.IsList l1 xs) (p2 : s.heap.IsList l2 ys) (ex : xs[i]? = some x) (ey : ys[i]? = some y)
    (hQ : ∀ g : Heap, ZS g z TI TO i1 i2 l1 l2 (i + 1) → IsPair g s.heap.objs.size x y → g.objs.size = s.heap.objs.size + 1 →
      (∀ c o, c ≠ z → c ≠ TO → c ≠ i1 → c ≠ i2 → s.heap.get? c = some o → g.get? c = some o) → Q (.ref s.heap.objs.size) { s with heap := g }) :
    wpAny (model prog w) A (Builtin.SmallTypes.nextOf (.ref z)) Q E s := by
  obtain ⟨zz, ti, ⟨a, b, tO⟩, q1, q2⟩ := id S
  unfold Builtin.SmallTypes.nextOf
  refine wpAny_bind (wpAny_callSpecial?_slot (name := Str.ofString "__next__") S.typ F.slot_zip_next (wpAny_call_entry F.slot_zip_next S.typ F.entry_zip_next ?_ (F.args_zip_next_1 _)))
  rcases zz with hz | ⟨T, fb, hz⟩
  · exact zip_next_item D hz ti tO q1 q2 p1 p2 ex ey fun g g1 g2 g3 g4 g5 g6 gk => wpAny_pure (hQ g ⟨.inr ⟨_, _, g1⟩, gk _ _ D.TIz D.TITO D.TIi1 D.TIi2 ti, ⟨_, _, g2⟩, g3, g4⟩ g5 g6 gk)
  · cases al : s.heap.get? T with
    | some oT => exact zip_next_item_held D hz al ti q1 q2 p1 p2 ex ey fun g g1 g3 g4 g5 g6 gk => wpAny_pure (hQ g ⟨.inr ⟨_, _, g1⟩, gk _ _ D.TIz D.TIi1 D.TIi2 ti, ⟨_, _, gk _ _ D.TOz D.TOi1 D.TOi2 tO⟩, g3, g4⟩ g5 g6 fun c o n _ m j e => gk c o n m j e)
    | none => exact gone_item D hz al ti tO q1 q2 p1 p2 ex ey fun g g1 g2 g3 g4 g5 g6 gk => wpAny_pure (hQ g ⟨.inr ⟨_, _, g1⟩, gk _ _ D.TIz D.TITO D.TIi1 D.TIi2 ti, ⟨_, _, g2⟩, g3, g4⟩ g5 g6 gk)
theorem zs_end {z TI TO i1 i2 l1 l2 : Addr} {i : Nat} {xs ys : Array Value} {Q : Value → Shared → Prop} (hh : A.handled = none) (D : ZipApart z TI TO i1 i2 l1 l2) (S : ZS s.heap z TI TO i1 i2 l1 l2 i)
    (p1 : s.heap.IsList l1 xs) (p2 : s.heap.IsList l2 ys) (no : xs[i]? = none ∨ ys[i]? = none)
    (hE : ∀ (g : Heap) e, (∀ c o, c ≠ z → c ≠ TO → c ≠ i1 → c ≠ i2 → s.heap.get? c = some o → g.get? c = some o) → (∃ o, g.get? e = some o ∧ o.cls = .type "StopIteration") → E (.ref e) { s with heap := g }) :
    wpAny (model prog w) A (Builtin.SmallTypes.nextOf (.ref z)) Q E s := by
  obtain ⟨zz, ti, ⟨a, b, tO⟩, q1, q2⟩ := id S
  unfold Builtin.SmallTypes.nextOf
  refine wpAny_bind (wpAny_callSpecial?_slot (name := Str.ofString "__next__") S.typ F.slot_zip_next (wpAny_call_entry F.slot_zip_next S.typ F.entry_zip_next ?_ (F.args_zip_next_1 _)))
  rcases zz with hz | ⟨T, fb, hz⟩
  · exact zip_next_end hh D hz ti tO q1 q2 p1 p2 no hE
  · cases al : s.heap.get? T with
    | some oT => exact zip_next_end_held hh D hz al ti q1 q2 p1 p2 no fun g e gk => hE g e fun c o n _ m j q => gk c o n m j q
    | none => exact gone_end hh D hz al ti tO q1 q2 p1 p2 no hE
/-- enumerate's next, over a zip -/
theorem ez_item {e z TI TO i1 i2 l1 l2 : Addr} {i : Nat} {xs ys : Array Value} {x y old : Value} {Q : Value → Shared → Prop} (D : ZipApart z TI TO i1 i2 l1 l2) (he : IsEnum s.heap e z i old) (S : ZS s.heap z TI TO i1 i2 l1 l2 i)
    (hez : e ≠ z) (heO : e ≠ TO) (he1 : e ≠ i1) (he2 : e ≠ i2) (heI : e ≠ TI) (p1 : s.heap.IsList l1 xs) (p2 : s.heap.IsList l2 ys) (ex : xs[i]? = some x) (ey : ys[i]? = some y)
    (hQ : ∀ (g : Heap) tk, IsEnumOut g e z ((i : Int) + 1) (.ref s.heap.objs.size) (s.heap.objs.size + 1) → ZS g z TI TO i1 i2 l1 l2 (i + 1) → IsPair g s.heap.objs.size x y →
      g.get? (s.heap.objs.size + 1) = some { cls := .type "tuple", data := .seq #[.int i tk, .ref s.heap.objs.size] } → g.objs.size = s.heap.objs.size + 2 →
      (∀ c o, c ≠ e → c ≠ z → c ≠ TO → c ≠ i1 → c ≠ i2 → s.heap.get? c = some o → g.get? c = some o) → Q (.ref (s.heap.objs.size + 1)) { s with heap := g, toks := tk + 1 }) :
    wpAny (model prog w) A (Builtin.«enumerate.__next__» ⟨[.ref e], []⟩) (fun fin t => ∃ v, fin = .done (.ret v) ∧ Q v t) E s := by
  obtain ⟨hp, gg, dd, tk, os⟩ := s
  show wpAny _ _ (field (.ref e) 2 >>= _) _ _ _
  refine wpAny_bind (wpAny_field he rfl (x := .ref z) rfl (wpAny_bind (zs_item D S p1 p2 ex ey fun g1 S1 pr sz1 k1 => ?_)))
  have e1 : IsEnum g1 e z i old := k1 _ _ hez heO he1 he2 he
  show wpAny _ _ (field (.ref e) 3 >>= _) _ _ ⟨g1, gg, dd, tk, os⟩
  refine wpAny_bind (wpAny_field e1 rfl (x := rawInt i) rfl ?_)
  show wpAny _ _ (field (.ref e) 4 >>= _) _ _ ⟨g1, gg, dd, tk, os⟩
  refine wpAny_bind (wpAny_field e1 rfl (x := .none) rfl ?_)
  show wpAny _ _ (mkInt i >>= _) _ _ ⟨g1, gg, dd, tk, os⟩
  refine wpAny_bind (wpAny_mkInt ?_)
  show wpAny _ _ (setField (.ref e) 3 (rawInt ((i : Int) + 1)) >>= _) _ _ ⟨g1, gg, dd, tk + 1, os⟩
  refine wpAny_bind (wpAny_setField_rec e1 (by simp) fun g2 f2 s2 => ?_)
  have e2 : IsEnum g2 e z ((i : Int) + 1) old := f2
  show wpAny _ _ (setField (.ref e) 4 .none >>= _) _ _ ⟨g2, gg, dd, tk + 1, os⟩
  refine wpAny_bind (wpAny_setField_rec e2 (by simp) fun g3 f3 s3 => ?_)
  have e3 : IsEnum g3 e z ((i : Int) + 1) old := f3
  have sz3 : g3.objs.size = hp.objs.size + 1 := by rw [s3.1, s2.1]; exact sz1
  have el : e < hp.objs.size := Heap.lt_size he
  show wpAny _ _ (newTuple [.int i tk, .ref hp.objs.size] >>= _) _ _ ⟨g3, gg, dd, tk + 1, os⟩
  refine wpAny_bind (wpAny_newTuple ?_)
  have e4 : IsEnum (g3.push { cls := .type "tuple", data := .seq #[.int i tk, .ref hp.objs.size] }) e z ((i : Int) + 1) old := Heap.get?_push_of_some _ e3
  have t4 : (g3.push { cls := .type "tuple", data := .seq #[.int i tk, .ref hp.objs.size] }).get? (hp.objs.size + 1) = some { cls := .type "tuple", data := .seq #[.int i tk, .ref hp.objs.size] } := by
    rw [← sz3]; exact Heap.get?_push_size _ rfl
  have sz4 : (g3.push { cls := .type "tuple", data := .seq #[.int i tk, .ref hp.objs.size] }).objs.size = hp.objs.size + 2 := by rw [Heap.size_push, sz3]
  have k4 : ∀ c o, c ≠ e → g1.get? c = some o → (g3.push { cls := .type "tuple", data := .seq #[.int i tk, .ref hp.objs.size] }).get? c = some o := fun c o n q => Heap.get?_push_of_some _ (s3.extBut _ _ n (s2.extBut _ _ n q))
  generalize g3.push { cls := .type "tuple", data := .seq #[.int i tk, .ref hp.objs.size] } = g4 at e4 t4 sz4 k4
  show wpAny _ _ (Builtin.SmallTypes.ownedTupleIsFree (.ref e) >>= _) _ _ ⟨g4, gg, dd, tk + 1, os⟩
  rw [sz3]
  refine wpAny_bind ?_
  unfold Builtin.SmallTypes.ownedTupleIsFree
  refine wpAny_bind (wpAny_field e4 rfl (x := .none) rfl (wpAny_pure ?_))
  simp only [if_true]
  refine wpAny_bind (wpAny_rule (wpAny_bind (wpAny_field e4 rfl (x := old) rfl (wpAny_bind (wpAny_setField_rec e4 (by simp) fun g5 f5 s5 => ?_)))))
  have e5 : IsEnum g5 e z ((i : Int) + 1) (.ref hp.objs.size) := f5
  show wpAny _ _ (Builtin.SmallTypes.ownedTupleHandOut (.ref e) (.ref (hp.objs.size + 1)) >>= _) _ _ ⟨g5, gg, dd, tk + 1, os⟩
  refine wpAny_bind ?_
  unfold Builtin.SmallTypes.ownedTupleHandOut
  refine wpAny_bind (wpAny_setField_rec e5 (by simp) fun g6 f6 s6 => ?_)
  have e6 : IsEnumOut g6 e z ((i : Int) + 1) (.ref hp.objs.size) (hp.objs.size + 1) := f6
  refine wpAny_setField_rec e6 (by simp) fun g7 f7 s7 => ?_
  have e7 : IsEnumOut g7 e z ((i : Int) + 1) (.ref hp.objs.size) (hp.objs.size + 1) := f7
  have k7 : ∀ c o, c ≠ e → g4.get? c = some o → g7.get? c = some o := fun c o n q => s7.extBut _ _ n (s6.extBut _ _ n (s5.extBut _ _ n q))
  have kk : ∀ c o, c ≠ e → g1.get? c = some o → g7.get? c = some o := fun c o n q => k7 c o n (k4 c o n q)
  have S7 : ZS g7 z TI TO i1 i2 l1 l2 (i + 1) := ⟨S1.z.elim (fun q => .inl (kk _ _ hez.symm q)) fun ⟨T, fb, q⟩ => .inr ⟨T, fb, kk _ _ hez.symm q⟩, kk _ _ heI.symm S1.ti,
    (let ⟨a, b, q⟩ := S1.tO; ⟨a, b, kk _ _ heO.symm q⟩), S1.a.at fun o q => kk _ o he1.symm q, S1.b.at fun o q => kk _ o he2.symm q⟩
  refine wpAny_bind (wpAny_letGo (wpAny_pure ⟨_, rfl, hQ g7 tk e7 S7 (kk _ _ (Nat.ne_of_gt el) pr) ?_ ?_ ?_⟩))
  · exact k7 _ _ (Nat.ne_of_gt (Nat.lt_succ_of_lt el)) t4
  · rw [s7.1, s6.1, s5.1]; exact sz4
  · exact fun c o n m k j l q => kk c o n (k1 c o m k j l q)
theorem py_ez_item {e z TI TO i1 i2 l1 l2 : Addr} {i : Nat} {xs ys : Array Value} {x y old : Value} {Q : Option Value → Shared → Prop} (D : ZipApart z TI TO i1 i2 l1 l2) (he : IsEnum s.heap e z i old) (S : ZS s.heap z TI TO i1 i2 l1 l2 i)
    (hez : e ≠ z) (heO : e ≠ TO) (he1 : e ≠ i1) (he2 : e ≠ i2) (heI : e ≠ TI) (p1 : s.heap.IsList l1 xs) (p2 : s.heap.IsList l2 ys) (ex : xs[i]? = some x) (ey : ys[i]? = some y)
    (hQ : ∀ (g : Heap) tk, IsEnumOut g e z ((i : Int) + 1) (.ref s.heap.objs.size) (s.heap.objs.size + 1) → ZS g z TI TO i1 i2 l1 l2 (i + 1) → IsPair g s.heap.objs.size x y →
      g.get? (s.heap.objs.size + 1) = some { cls := .type "tuple", data := .seq #[.int i tk, .ref s.heap.objs.size] } → g.objs.size = s.heap.objs.size + 2 →
      (∀ c o, c ≠ e → c ≠ z → c ≠ TO → c ≠ i1 → c ≠ i2 → s.heap.get? c = some o → g.get? c = some o) → Q (some (.ref (s.heap.objs.size + 1))) { s with heap := g, toks := tk + 1 }) :
    wpAny (model prog w) A (pyNext (.ref e)) Q E s := by
  have hT : s.TypeIs (.ref e) "enumerate" := ⟨_, he, rfl⟩
  unfold pyNext
  refine wpAny_bind (wpAny_attempt (wpAny_callSpecial?_slot (name := Str.ofString "__next__") hT F.slot_enumerate_next (wpAny_call_entry F.slot_enumerate_next hT F.entry_enumerate_next ?_ (F.args_enumerate_next_1 _))))
  exact ez_item D he S hez heO he1 he2 heI p1 p2 ex ey fun g tk a b c d k q => wpAny_pure (hQ g tk a b c d k q)
theorem py_ez_end {e z TI TO i1 i2 l1 l2 : Addr} {i : Nat} {xs ys : Array Value} {old : Value} {Q : Option Value → Shared → Prop} (hh : A.handled = none) (D : ZipApart z TI TO i1 i2 l1 l2) (he : IsEnum s.heap e z i old) (S : ZS s.heap z TI TO i1 i2 l1 l2 i)
    (p1 : s.heap.IsList l1 xs) (p2 : s.heap.IsList l2 ys) (no : xs[i]? = none ∨ ys[i]? = none)
    (hQ : ∀ g : Heap, (∀ c o, c ≠ z → c ≠ TO → c ≠ i1 → c ≠ i2 → s.heap.get? c = some o → g.get? c = some o) → Q none { s with heap := g }) :
    wpAny (model prog w) A (pyNext (.ref e)) Q E s := by
  have hT : s.TypeIs (.ref e) "enumerate" := ⟨_, he, rfl⟩
  unfold pyNext
  refine wpAny_bind (wpAny_attempt (wpAny_callSpecial?_slot (name := Str.ofString "__next__") hT F.slot_enumerate_next (wpAny_call_entry F.slot_enumerate_next hT F.entry_enumerate_next ?_ (F.args_enumerate_next_1 _))))
  show wpAny _ _ (field (.ref e) 2 >>= _) _ _ _
  refine wpAny_bind (wpAny_field he rfl (x := .ref z) rfl (wpAny_bind (zs_end hh D S p1 p2 no fun g er gk ⟨o, ho, hc⟩ => ?_)))
  exact wpAny_bind (wpAny_isInstance (T := "StopIteration") (b := true) ⟨o, ho, hc⟩ isSubtype_stop (wpAny_pure (hQ g gk)))
end
end Dn
/-! Dn part 38: for a, (b, c) in enumerate(zip(x, y)). -/
namespace Dn
open PySem PySem.Spec PyProof.Rows L2
def ItEZ (K : PySem.W.Frag) (a b : Addr) : It :=
  ⟨fun i H => ∃ (xs ys : List V) (x y : V), SqL K H a xs ∧ SqL K H b ys ∧ xs[i]? = some x ∧ ys[i]? = some y,
    fun i H v H' => ∃ T U x y, v = .ref U ∧ H T = none ∧ H U = none ∧ U ≠ T ∧ H' = upd (upd H T (.tup [x, y])) U (.tup [.int (i : Nat), .ref T]) ∧ (∀ xs, SqL K H a xs → xs[i]? = some x) ∧ ∀ ys, SqL K H b ys → ys[i]? = some y,
    fun i H => ∃ xs ys : List V, SqL K H a xs ∧ SqL K H b ys ∧ i ≤ xs.length ∧ i ≤ ys.length ∧ (i = xs.length ∨ i = ys.length)⟩
theorem Inv.turnedTwo {X : Cx} {pins : List (Addr × Obj)} {σ : L2.St} {H : Hp} {s : Shared} {h' : Heap} {t' : Nat} {ch : List Addr} {T U : Addr} {o1 o2 : HO} (I : Inv X pins σ H s) (k : ∀ b o, b ∉ ch → s.heap.get? b = some o → h'.get? b = some o)
    (hf : ∀ b ∈ ch, FpOk X pins H b) (hT : s.heap.objs.size ≤ T) (hU : s.heap.objs.size ≤ U) (ne : U ≠ T) (n1 : ∀ g : Heap, (∀ b, b ≠ U → g.get? b = h'.get? b) → ObjOk X.prog X.w (upd H T o1) g T o1) (n2 : ObjOk X.prog X.w (upd (upd H T o1) U o2) h' U o2) :
    Inv X pins σ (upd (upd H T o1) U o2) { s with heap := h', toks := t' } := by
  obtain ⟨g, g1, g2⟩ := restrict h' fun b => decide (b ≠ U)
  have gs : ∀ b, b ≠ U → g.get? b = h'.get? b := fun b hb => g1 b (decide_eq_true hb)
  have gu : g.get? U = none := g2 U (decide_eq_false fun z => z rfl)
  have I1 : Inv X pins σ (upd H T o1) { s with heap := g, toks := t' } := I.turnedNew (t' := t') (ch := ch) (fun b o hb e => by
    rw [gs b (Nat.ne_of_lt (Nat.lt_of_lt_of_le (Heap.lt_size e) hU))]; exact k b o hb e) hf hT (n1 g gs)
  have hn : (upd H T o1) U = none := by rw [upd_ne ne]; exact I.hok.fresh hU
  exact I1.laidN (t' := t') (fun b o e => by
    by_cases hb : b = U
    · subst hb; rw [gu] at e; cases e
    · rw [← gs b hb]; exact e) gu hn n2
theorem turn_ez {P : Program} {w : World} {K : PySem.W.Frag} {elts : List Expr} {kk : Nat} {tpos : Pos} {a b e z TI TO i1 i2 : Addr} (D : ZipApart z TI TO i1 i2 a b) (hez : e ≠ z) (heO : e ≠ TO) (he1 : e ≠ i1) (he2 : e ≠ i2) (heI : e ≠ TI) :
    Turn P w K (.Tuple elts kk tpos) (ItEZ K a b) [e, z, TI, TO, i1, i2] e (fun i h => (∃ old, IsEnum h e z i old) ∧ ZS h z TI TO i1 i2 a b i) where
  mem := by simp
  obj := fun i h ⟨⟨old, he⟩, S⟩ c hc => by
    have e' : c = e ∨ c = z ∨ c = TI ∨ c = TO ∨ c = i1 ∨ c = i2 := by simpa using hc
    rcases e' with q | q | q | q | q | q
    · rw [q]; exact ⟨_, he, fun v q => nomatch q⟩
    · rw [q]
      rcases S.z with hz | ⟨T, fb, hz⟩
      · exact ⟨_, hz, fun v q => nomatch q⟩
      · exact ⟨_, hz, fun v q => nomatch q⟩
    · rw [q]; exact ⟨_, S.ti, fun v q => nomatch q⟩
    · rw [q]; obtain ⟨x, y, q⟩ := S.tO; exact ⟨_, q, fun v q => nomatch q⟩
    · rw [q]; obtain ⟨o, e1, _, d⟩ := S.a; exact ⟨o, e1, fun v q => by rw [d] at q; cases q⟩
    · rw [q]; obtain ⟨o, e1, _, d⟩ := S.b; exact ⟨o, e1, fun v q => by rw [d] at q; cases q⟩
  keep := fun i h h' ⟨⟨old, he⟩, S⟩ k => ⟨⟨old, k e (by simp) _ he⟩, ⟨S.z.elim (fun q => .inl (k z (by simp) _ q)) fun ⟨T, fb, q⟩ => .inr ⟨T, fb, k z (by simp) _ q⟩, k TI (by simp) _ S.ti,
    (let ⟨x, y, q⟩ := S.tO; ⟨x, y, k TO (by simp) _ q⟩), S.a.at fun o q => k i1 (by simp) o q, S.b.at fun o q => k i2 (by simp) o q⟩⟩
  item := by
    intro X hP hw hK hc i pins s σ H E I hf ⟨⟨old, he⟩, S⟩ hg
    subst hP hw hK
    obtain ⟨xs, ys, x, y, hqx, hqy, hx, hy⟩ := hg
    obtain ⟨its, rv, p, _⟩ := I.list hqx
    obtain ⟨its2, rv2, p2, _⟩ := I.list hqy
    obtain ⟨u, hu, ru⟩ := rv.get hx
    obtain ⟨u2, hu2, ru2⟩ := rv2.get hy
    refine py_ez_item D he S hez heO he1 he2 heI p.isList p2.isList (x := u) (y := u2) (by simpa using hu) (by simpa using hu2) fun g tk eo S' pr pu sz kk => ⟨_, rfl, ?_⟩
    refine wpAny_letOwnedTupleGo_enum eo fun g' e' sb => ?_
    have kk' : ∀ c o, c ≠ e → g.get? c = some o → g'.get? c = some o := fun c o n q => sb.extBut c o n q
    have el : e < s.heap.objs.size := Heap.lt_size he
    have pr' := kk' _ _ (Nat.ne_of_gt el) pr
    have pu' := kk' _ _ (Nat.ne_of_gt (Nat.lt_succ_of_lt el)) pu
    have hn := I.hok.fresh (Nat.le_refl s.heap.objs.size)
    have hn2 := I.hok.fresh (Nat.le_succ s.heap.objs.size)
    have hfr : ∀ c, s.heap.objs.size ≤ c → ∀ b ∈ [e, z, TI, TO, i1, i2], b ≠ c := fun c hle b hb q => by
      obtain ⟨o, ho, _⟩ : ∃ o, s.heap.get? b = some o ∧ True := by
        have e' : b = e ∨ b = z ∨ b = TI ∨ b = TO ∨ b = i1 ∨ b = i2 := by simpa using hb
        rcases e' with q | q | q | q | q | q
        · rw [q]; exact ⟨_, he, trivial⟩
        · rw [q]
          rcases S.z with hz | ⟨T, fb, hz⟩
          · exact ⟨_, hz, trivial⟩
          · exact ⟨_, hz, trivial⟩
        · rw [q]; exact ⟨_, S.ti, trivial⟩
        · rw [q]; obtain ⟨x, y, q⟩ := S.tO; exact ⟨_, q, trivial⟩
        · rw [q]; obtain ⟨o, e1, _⟩ := S.a; exact ⟨o, e1, trivial⟩
        · rw [q]; obtain ⟨o, e1, _⟩ := S.b; exact ⟨o, e1, trivial⟩
      exact absurd (Heap.lt_size ho) (Nat.not_lt.mpr (by rw [q]; exact hle))
    refine ⟨.ref (s.heap.objs.size + 1), upd (upd H s.heap.objs.size (.tup [x, y])) (s.heap.objs.size + 1) (.tup [.int (i : Nat), .ref s.heap.objs.size]), ?_, rfl, ⟨_, _, x, y, rfl, hn, hn2, Nat.succ_ne_self _, rfl, fun l hl => by rw [I.list_inj hl hqx]; exact hx, fun l hl => by rw [I.list_inj hl hqy]; exact hy⟩, ⟨⟨_, by simpa using e'⟩, ?_⟩, fun c hcm => ?_⟩
    · refine Inv.turnedTwo (s := s) (h' := g') (t' := tk + 1) (ch := [e, z, TO, i1, i2]) I (fun c o hb q => ?_) (fun c hb => hf c ?_) (Nat.le_refl _) (Nat.le_succ _) (Nat.succ_ne_self _) (fun G hG => ?_) ?_
      · exact kk' c o (fun q' => hb (by simp [q'])) (kk c o (fun q' => hb (by simp [q'])) (fun q' => hb (by simp [q'])) (fun q' => hb (by simp [q'])) (fun q' => hb (by simp [q'])) (fun q' => hb (by simp [q'])) q)
      · have e' : c = e ∨ c = z ∨ c = TO ∨ c = i1 ∨ c = i2 := by simpa using hb
        rcases e' with q | q | q | q | q <;> simp [q]
      · exact ⟨show 2 ≤ sizeLine by decide, [u, u2], .cons ru (.cons ru2 .nil), ⟨_, by rw [hG _ (Nat.ne_of_lt (Nat.lt_succ_self _))]; exact pr', rfl, _, rfl⟩⟩
      · exact ⟨show 2 ≤ sizeLine by decide, [.int i tk, .ref s.heap.objs.size], .cons ⟨tk, rfl⟩ (.cons rfl .nil), ⟨_, pu', rfl, _, rfl⟩⟩
    · exact ⟨S'.z.elim (fun q => .inl (kk' _ _ hez.symm q)) fun ⟨T, fb, q⟩ => .inr ⟨T, fb, kk' _ _ hez.symm q⟩, kk' _ _ heI.symm S'.ti, (let ⟨x, y, q⟩ := S'.tO; ⟨x, y, kk' _ _ heO.symm q⟩), S'.a.at fun o q => kk' _ o he1.symm q, S'.b.at fun o q => kk' _ o he2.symm q⟩
    · rw [upd_ne (hfr _ (Nat.le_succ _) c hcm), upd_ne (hfr _ (Nat.le_refl _) c hcm)]
      exact (hf c hcm).1
  done := by
    intro X hP hw hK hc i pins s σ H E I hf ⟨⟨old, he⟩, S⟩ hg
    subst hP hw hK
    obtain ⟨xs, ys, hqx, hqy, le1, le2, hend⟩ := hg
    obtain ⟨its, rv, p, _⟩ := I.list hqx
    obtain ⟨its2, rv2, p2, _⟩ := I.list hqy
    have l1 := rv.length
    have l2 := rv2.length
    refine py_ez_end (I.ok.hd hc) D he S p.isList p2.isList (by
      rcases hend with q | q
      · exact .inl (by simp; omega)
      · exact .inr (by simp; omega)) fun g gk => ⟨rfl, ?_⟩
    exact I.turnedL (t' := s.toks) (ch := [e, z, TI, TO, i1, i2]) (fun c o hb q => gk c o (fun q' => hb (by simp [q'])) (fun q' => hb (by simp [q'])) (fun q' => hb (by simp [q'])) (fun q' => hb (by simp [q'])) q) hf
  self := fun A i s Q E st h => let ⟨⟨_, he⟩, _⟩ := st; wpAny_pyIter_enum he h
set_option maxHeartbeats 1000000 in
theorem meets_enum_zip (z : Addr) (TI TO : Addr) :
    Meets (Builtin.«enumerate.__new__» ⟨[.type "enumerate", .ref z], []⟩) (fun _ R s => IsZip s.heap z TI TO .none ∧
      R (.ok (.ret (.ref s.heap.objs.size))) { s with heap := s.heap.push { cls := .type "enumerate", data := .fields #[.none, .bool false, .ref z, rawInt 0, .none, .none] } }) :=
  .of_wp fun prog w A R s h => by
    obtain ⟨hp, g, d, tk, os⟩ := s; obtain ⟨h1, h⟩ := h
    have hsub := sub_enumerate
    have q1 : ∀ {A' : Around} {E : Value → Shared → Prop} {Q : Value → Shared → Prop} {tk : Nat}, Q (.ref z) ⟨hp, g, d, tk, os⟩ → wpAny (model prog w) A' (pyIter (.ref z)) Q E ⟨hp, g, d, tk, os⟩ :=
      fun q => wpAny_pyIter_zip h1 q
    wp_walk using q1
    refine wpAny_stack_any fun st => wpAny_pure ?_
    split
    · rename_i c _ _ _ _ _
      cases (c == Value.type "enumerate")
      · wp_walk using q1
        exact ⟨_, rfl, h⟩
      · wp_walk using q1
        exact ⟨_, rfl, h⟩
    · wp_walk using q1
      exact ⟨_, rfl, h⟩
theorem enum_zip_begins {prog : Program} {w : World} {A : Around} {E : Value → Shared → Prop} {s : Shared} {z TI TO : Addr} {Q : Value → Shared → Prop} (hz : IsZip s.heap z TI TO .none)
    (h : ∀ h', IsEnum h' s.heap.objs.size z 0 .none → h'.objs.size = s.heap.objs.size + 1 → (∀ b o, s.heap.get? b = some o → h'.get? b = some o) → Q (.ref s.heap.objs.size) { s with heap := h' }) :
    wpAny (model prog w) A (call (.type "enumerate") [.ref z]) Q E s := by
  refine callType_new F.called_enumerate (by decide) (F.typeCall_enumerate_1 _) (F.newCall_enumerate_1 _) (fun obj => F.args_object_init_2 obj _) F.entry_enumerate_new (meets_enum_zip z TI TO) ⟨hz, ?_⟩
  have he : IsEnum (s.heap.push { cls := .type "enumerate", data := .fields #[.none, .bool false, .ref z, rawInt 0, .none, .none] }) s.heap.objs.size z 0 .none := Heap.get?_push_size _ rfl
  exact ⟨⟨_, he, rfl⟩, h _ he (Heap.size_push ..) fun b o x => Heap.get?_push_of_some _ x⟩
section
variable {X : Cx} {W : WX} {K : PySem.W.Frag} {w w1 w' : Wd} {H H1 H' : Hp} {η : Store} {fA : FA} {p p2 pos pos2 tpos : Pos} {e e2 : Expr}
theorem itOk_ez {a b : Addr} {src : Src} (h : ItOk K (It2 K false false a b) src w H) : ItOk K (ItEZ K a b) (enumS src) w H := by
  have go : ∀ i w' H' η x, Ext w H w' H' → HeapRel K w' H' η → src.at i η = some x →
      (ItEZ K a b).go i H' ∧ ∀ v H2, (ItEZ K a b).yld i H' v H2 → Ext w' H' w' H2 ∧ HeapRel K w' H2 η ∧ RepV K w' H2 v (.tup [.int (i : Nat), x]) := fun i w' H' η x ex hr e1 => by
    obtain ⟨g, y⟩ := h.go i w' H' η x ex hr e1
    refine ⟨g, fun v H2 ⟨T, U, u, u2, ev, n1, n2, ne, eH, g1, g2⟩ => ?_⟩
    subst ev eH
    obtain ⟨ex2, hr2, rv⟩ := y (.ref T) (upd H' T (.tup [u, u2])) ⟨T, u, u2, rfl, n1, rfl, g1, g2⟩
    have n3 : (upd H' T (.tup [u, u2])) U = none := by rw [upd_ne ne]; exact n2
    exact ⟨ex2.trans (Ext.laid n3 hr2), hr2.laid n3, RepV.newT hr2 (.cons (.int _) (.cons rv .nil)) n3⟩
  have stop : ∀ i w' H' η, Ext w H w' H' → HeapRel K w' H' η → src.fin i η → (ItEZ K a b).stop i H' := fun i w' H' η ex hr f1 => h.stop i w' H' η ex hr f1
  cases src with
  | val xs =>
    refine ⟨fun i w' H' η x ex hr hx => ?_, fun i w' H' η ex hr hf => stop i w' H' η ex hr ?_⟩
    · have hx' : (xs.zipIdx.map fun q => D.tup [.int (q.2 : Nat), q.1])[i]? = some x := hx
      rw [List.getElem?_map, List.getElem?_zipIdx] at hx'
      cases e : xs[i]? with
      | none => rw [e] at hx'; cases hx'
      | some y =>
        rw [e] at hx'
        simp at hx'
        subst hx'
        exact go i w' H' η y ex hr e
    · have hf' : (xs.zipIdx.map fun q => D.tup [.int (q.2 : Nat), q.1]).length = i := hf
      show xs.length = i
      simpa using hf'
  | dyn f =>
    refine ⟨fun i w' H' η x ex hr hx => ?_, fun i w' H' η ex hr hf => stop i w' H' η ex hr ?_⟩
    · dsimp only [enumS, Src.at] at hx
      split at hx
      · rename_i z ez
        cases hx
        split at ez
        · rename_i e
          cases ez
          exact go i w' H' η _ ex hr (by dsimp only [Src.at]; rw [e])
        · cases ez
        · cases ez
      · cases hx
    · dsimp only [enumS, Src.fin] at hf
      split at hf
      · cases hf
      · rename_i e; exact e
      · cases hf
def iEZ (fA : FA) : FI := fun ρ η => (fA ρ η).bind fun ds η => match ds with
  | [x, y] => if lisD x && lisD y then (match sqOf x η, sqOf y η with
    | some s1, some s2 => .ok (enumS (zipS s1 s2)) η
    | _, _ => .no) else .no
  | _ => .no
theorem apart_new {N a b : Nat} (ha : a < N) (hb : b < N) : ZipApart (N + 4) (N + 2) (N + 3) N (N + 1) a b := by
  have h : ∀ {i j : Nat}, i ≠ j → N + i ≠ N + j := fun h q => h (Nat.add_left_cancel q)
  have h0 : ∀ {i : Nat}, 0 ≠ i → N ≠ N + i := fun h q => h (Nat.add_left_cancel (n := N) q)
  have k : ∀ {c i : Nat}, c < N → c ≠ N + i := fun h => Nat.ne_of_lt (Nat.lt_of_lt_of_le h (Nat.le_add_right _ _))
  exact ⟨h (by decide), h (by decide), h0 (by decide), h (by decide), h (by decide), (h0 (by decide)).symm, h (by decide), (h0 (by decide)).symm, h (by decide), h0 (by decide), k ha, k ha, Nat.ne_of_lt ha, k ha, k hb, k hb, Nat.ne_of_lt hb, k hb⟩
theorem add_ne {N i j : Nat} (h : i ≠ j) : N + i ≠ N + j := fun q => h (Nat.add_left_cancel q)
/-- for a, (b, c) in enumerate(zip(x, y)), both lists -/
theorem di_ez {elts : List Expr} {kk : Nat} (hm : X.mg "enumerate" = none) (hm2 : X.mg "zip" = none) (ha : DA X W [e, e2] fA) (hg : Gl X "enumerate" := by rfl) (hg2 : Gl X "zip" := by rfl)
    (hs0 : starEach [Expr.Call (.Name "zip" p2) [e, e2] [] pos2] X.env = [(false, eval (.Call (.Name "zip" p2) [e, e2] [] pos2) X.env)] := by rfl)
    (hs : starEach [e, e2] X.env = (false, eval e X.env) :: starEach [e2] X.env := by rfl) (hpl : (backTo pos2 (starEach [e2] X.env)).any (·.1) = false := by rfl) :
    DI X W (.Tuple elts kk tpos) (.Call (.Name "enumerate" p) [.Call (.Name "zip" p2) [e, e2] [] pos2] [] pos) (iEZ fA) := by
  refine ⟨fun pins s σ H R I ⟨w, ρ, η, rel, hp⟩ => ?_⟩
  refine Call_ (ld_blt I hg hm boot_enumerate (PyProof.Rows.callWith_type1 ?_ hs0 rfl))
  rw [hs0]
  refine Calls.spliced_cons ?_
  refine Call_ (ld_blt I hg2 hm2 PyProof.Rows.boot_zip (PyProof.Rows.callWith_type1 (thn (ha.run pos2 pins s σ H _ I (rdA_then rel hp)) fun us s1 ⟨vs, H1, I1, r1, w1, ds, η1, ex, rel1, rv, p1⟩ => ?_) hs hpl))
  split at p1
  case h_2 => exact p1.elim
  rename_i x y
  split at p1
  case isFalse => exact p1.elim
  rename_i hl
  have hl' := Bool.and_eq_true_iff.mp hl
  split at p1
  case h_2 => exact p1.elim
  rename_i s1' s2' q1 q2
  cases rv with | cons rv1 rr => ?_
  cases rr with | cons rv2 rr => ?_
  cases rr
  obtain ⟨a, ea, k1⟩ := sqOk_l rel1.heap rv1 q1 hl'.1
  obtain ⟨b, eb, k2⟩ := sqOk_l rel1.heap rv2 q2 hl'.2
  subst ea eb
  cases r1 with | cons r1 rr => ?_
  cases rr with | cons r2 rr => ?_
  cases rr; cases r1; cases r2
  obtain ⟨xs, hx⟩ := k1.now
  obtain ⟨ys, hy⟩ := k2.now
  obtain ⟨its, _, pa, _⟩ := inv_seq I1 hx
  obtain ⟨its2, _, pb, _⟩ := inv_seq I1 hy
  have la := seq_lt I1 hx
  have lb := seq_lt I1 hy
  refine zip_begins2 (begins_s false a its.toArray) (begins_s false b its2.toArray) pa pb fun h' hz hTI hTO g1 g2 hsz hk => ?_
  have I2 : Inv X pins σ H1 { s1 with heap := h' } := I1.kept (t' := s1.toks) hk
  refine Calls.spliced_nil ?_
  refine enum_zip_begins hz fun h2 he hsz2 hk2 => wpAny_pyIter_enum he ?_
  have I3 : Inv X pins σ H1 { s1 with heap := h2 } := I2.kept (t' := s1.toks) hk2
  have hsz' : h'.objs.size = s1.heap.objs.size + 5 := hsz
  have D : ZipApart (s1.heap.objs.size + 4) (s1.heap.objs.size + 2) (s1.heap.objs.size + 3) s1.heap.objs.size (s1.heap.objs.size + 1) a b := apart_new la lb
  have he' : IsEnum h2 (s1.heap.objs.size + 5) (s1.heap.objs.size + 4) 0 .none := by rw [← hsz']; exact he
  have ev : Value.ref h'.objs.size = .ref (s1.heap.objs.size + 5) := by rw [hsz']
  refine ⟨s1.heap.objs.size + 5, [s1.heap.objs.size + 5, s1.heap.objs.size + 4, s1.heap.objs.size + 2, s1.heap.objs.size + 3, s1.heap.objs.size, s1.heap.objs.size + 1], _, ItEZ X.K a b, H1, ev, I3, turn_ez D (add_ne (by decide)) (add_ne (by decide)) (Nat.ne_of_gt (Nat.lt_add_of_pos_right (by decide))) (add_ne (by decide)) (add_ne (by decide)),
    ⟨⟨.none, by simpa using he'⟩, ⟨.inl (hk2 _ _ hz), hk2 _ _ hTI, ⟨_, _, hk2 _ _ hTO⟩, ⟨_, hk2 _ _ g1, rfl, rfl⟩, ⟨_, hk2 _ _ g2, rfl, rfl⟩⟩⟩, fun c hc => ?_, ?_⟩
  · have e' : c = s1.heap.objs.size + 5 ∨ c = s1.heap.objs.size + 4 ∨ c = s1.heap.objs.size + 2 ∨ c = s1.heap.objs.size + 3 ∨ c = s1.heap.objs.size ∨ c = s1.heap.objs.size + 1 := by simpa using hc
    have hle : s1.heap.objs.size ≤ c := by
      rcases e' with z | z | z | z | z | z
      · rw [z]; exact Nat.le_add_right _ _
      · rw [z]; exact Nat.le_add_right _ _
      · rw [z]; exact Nat.le_add_right _ _
      · rw [z]; exact Nat.le_add_right _ _
      · rw [z]; exact Nat.le_refl _
      · rw [z]; exact Nat.le_add_right _ _
    exact I1.fpOk hle (I1.hok.fresh hle)
  · exact p1 _ w1 H1 .refl rel1.heap (itOk_ez (itOk_zip k1 k2))
end
end Dn
namespace K92
/-! ### the plain law of leads -/
structure Pl where
  s : Nat
  d : Nat
  m : Nat
  o : Nat
structure Pl.Ok (p : Pl) : Prop where
  s : p.s ≤ 1000000
  d : p.d ≤ 1000000
  o1 : 1 ≤ p.o
  o2 : p.o ≤ 10000
  m : p.m ≤ p.o
def Gr (p : Pl) (n : Nat) : Nat := (p.o + p.m) ^ n
def Bl (p : Pl) (n : Nat) : Nat := p.o ^ n
def Qu (p : Pl) : Nat → Nat
  | 0 => 0
  | n + 1 => Qu p n * (p.o + p.m) + Bl p (n + 1)
def To (p : Pl) (n : Nat) : Nat := p.s * Gr p n + p.d * Qu p n
theorem Bl_succ (p : Pl) (n : Nat) : Bl p (n + 1) = Bl p n * p.o := rfl
theorem Gr_succ (p : Pl) (n : Nat) : Gr p (n + 1) = Gr p n * (p.o + p.m) := rfl
theorem Qu_mul (p : Pl) : ∀ n, p.m * Qu p n + Bl p n * p.o = Gr p n * p.o
  | 0 => by simp [Qu, Bl, Gr]
  | n + 1 => by
    have ih := Qu_mul p n
    rw [Gr_succ, Bl_succ]
    show p.m * (Qu p n * (p.o + p.m) + Bl p n * p.o) + Bl p n * p.o * p.o = _
    grind
theorem To_succ (p : Pl) (n : Nat) : To p (n + 1) = To p n * (p.o + p.m) + p.d * Bl p (n + 1) := by
  unfold To
  rw [Gr_succ]
  show p.s * (Gr p n * (p.o + p.m)) + p.d * (Qu p n * (p.o + p.m) + Bl p (n + 1)) = _
  grind
/-- what a period brings -/
def Cp (p : Pl) : Nat := p.s * p.m + p.d * p.o
/-- m To + d o Bl = C Gr -/
theorem To_mul (p : Pl) (n : Nat) : p.m * To p n + p.d * p.o * Bl p n = Cp p * Gr p n := by
  have h := Qu_mul p n
  unfold To Cp
  grind
theorem step_eq (p : Pl) (n : Nat) : To p (n + 1) = p.o * To p n + Cp p * Gr p n := by
  have h := To_mul p n
  rw [To_succ, Bl_succ]
  grind
/-- the difference, times both lower numbers -/
def fD (p q : Pl) (n : Nat) : Int := (To p n : Int) * (Bl q n : Int) - (To q n : Int) * (Bl p n : Int)
def gD (p q : Pl) (n : Nat) : Int := ((Cp p * q.o : Nat) : Int) * ((((p.o + p.m) * q.o) ^ n : Nat) : Int) - ((Cp q * p.o : Nat) : Int) * ((((q.o + q.m) * p.o) ^ n : Nat) : Int)
theorem fD_succ (p q : Pl) (n : Nat) : fD p q (n + 1) = ((p.o * q.o : Nat) : Int) * fD p q n + gD p q n := by
  unfold fD gD
  rw [step_eq, step_eq, Bl_succ, Bl_succ, Nat.mul_pow, Nat.mul_pow]
  show _ = _
  have e1 : (p.o + p.m) ^ n = Gr p n := rfl
  have e2 : (q.o + q.m) ^ n = Gr q n := rfl
  have e3 : p.o ^ n = Bl p n := rfl
  have e4 : q.o ^ n = Bl q n := rfl
  rw [e1, e2, e3, e4]
  simp only [Int.natCast_add, Int.natCast_mul]
  grind
/-- of two growing parts one stays ahead -/
theorem tri (u v a b : Nat) (ha : 0 < a) (hb : 0 < b) : let g := fun n : Nat => ((u : Nat) : Int) * ((a ^ n : Nat) : Int) - (v : Int) * ((b ^ n : Nat) : Int)
    (∀ n, g n = 0) ∨ (∀ n, 0 ≤ g n → 0 < g (n + 1)) ∨ (∀ n, g n ≤ 0 → g (n + 1) < 0) := by
  intro g
  have pa : ∀ n, (0 : Int) < ((a ^ n : Nat) : Int) := fun n => by exact_mod_cast Nat.pow_pos ha
  have pb : ∀ n, (0 : Int) < ((b ^ n : Nat) : Int) := fun n => by exact_mod_cast Nat.pow_pos hb
  have sa : ∀ n, ((a ^ (n + 1) : Nat) : Int) = (a : Int) * ((a ^ n : Nat) : Int) := fun n => by rw [Nat.pow_succ, Int.natCast_mul, Int.mul_comm]
  have sb : ∀ n, ((b ^ (n + 1) : Nat) : Int) = (b : Int) * ((b ^ n : Nat) : Int) := fun n => by rw [Nat.pow_succ, Int.natCast_mul, Int.mul_comm]
  have gs : ∀ n, g (n + 1) = a * g n + (v : Int) * ((b ^ n : Nat) : Int) * (a - b) := fun n => by
    show (u : Int) * _ - (v : Int) * _ = a * ((u : Int) * _ - (v : Int) * _) + _
    rw [sa, sb]; grind
  have gs2 : ∀ n, g (n + 1) = b * g n + (u : Int) * ((a ^ n : Nat) : Int) * (a - b) := fun n => by
    show (u : Int) * _ - (v : Int) * _ = b * ((u : Int) * _ - (v : Int) * _) + _
    rw [sa, sb]; grind
  have hu : (0 : Int) ≤ u := Int.natCast_nonneg _
  have hv : (0 : Int) ≤ v := Int.natCast_nonneg _
  by_cases h0 : u = 0 ∧ v = 0
  · refine .inl fun n => ?_
    show (u : Int) * _ - (v : Int) * _ = 0
    rw [h0.1, h0.2]; simp
  have ha' : (0 : Int) < a := by omega
  have hb' : (0 : Int) < b := by omega
  rcases Nat.lt_trichotomy a b with hab | hab | hab
  · -- b is greater
    by_cases hv0 : v = 0
    · refine .inr (.inl fun n _ => ?_)
      show 0 < (u : Int) * _ - (v : Int) * _
      have : (0 : Int) < u := by omega
      rw [hv0]
      have := Int.mul_pos this (pa (n + 1))
      simp
      simpa using this
    · refine .inr (.inr fun n hn => ?_)
      rw [gs n]
      have h1 : (a : Int) * g n ≤ 0 := Int.mul_nonpos_of_nonneg_of_nonpos (Int.le_of_lt ha') hn
      have h2 : 0 < (v : Int) * ((b ^ n : Nat) : Int) := Int.mul_pos (by omega) (pb n)
      have h3 : (v : Int) * ((b ^ n : Nat) : Int) * ((a : Int) - b) < 0 := Int.mul_neg_of_pos_of_neg h2 (by omega)
      omega
  · subst hab
    have e : ∀ n, g n = ((u : Int) - v) * ((a ^ n : Nat) : Int) := fun n => by
      show (u : Int) * _ - (v : Int) * _ = _
      grind
    rcases Int.lt_trichotomy (u : Int) v with h | h | h
    · refine .inr (.inr fun n _ => ?_)
      rw [e]; exact Int.mul_neg_of_neg_of_pos (by omega) (pa _)
    · refine .inl fun n => ?_
      rw [e]; simp [h]
    · refine .inr (.inl fun n _ => ?_)
      rw [e]; exact Int.mul_pos (by omega) (pa _)
  · by_cases hu0 : u = 0
    · refine .inr (.inr fun n _ => ?_)
      show (u : Int) * _ - (v : Int) * _ < 0
      have : (0 : Int) < v := by omega
      rw [hu0]
      have := Int.mul_pos this (pb (n + 1))
      simp
      simpa using this
    · refine .inr (.inl fun n hn => ?_)
      rw [gs2 n]
      have h1 : 0 ≤ (b : Int) * g n := Int.mul_nonneg (Int.le_of_lt hb') hn
      have h2 : 0 < (u : Int) * ((a ^ n : Nat) : Int) := Int.mul_pos (by omega) (pa n)
      have h3 : 0 < (u : Int) * ((a ^ n : Nat) : Int) * ((a : Int) - b) := Int.mul_pos h2 (by omega)
      omega

/-! ### rows of a run of signs -/
inductive Sg where
  | one | other | both
  deriving DecidableEq
def sg (x : Int) : Sg := if x = 0 then .both else if 0 < x then .one else .other
/-- the rows: a sign is put if it is another one than the last -/
def put (L : List (Nat × Sg)) (n : Nat) (x : Sg) : List (Nat × Sg) := match L.getLast? with
  | none => [(n, x)]
  | some r => if r.2 = x then L else L ++ [(n, x)]
def rows (w : Nat → Sg) : Nat → List (Nat × Sg)
  | 0 => []
  | n + 1 => put (rows w n) n (w n)
theorem rows_last (w : Nat → Sg) (n : Nat) : ∃ k, (rows w (n + 1)).getLast? = some (k, w n) := by
  show ∃ k, (put (rows w n) n (w n)).getLast? = _
  unfold put
  split
  · exact ⟨n, rfl⟩
  · rename_i r e
    split
    · rename_i h; exact ⟨r.1, by rw [e, ← h]⟩
    · exact ⟨n, by simp⟩
theorem rows_len (w : Nat → Sg) : ∀ n, (rows w n).length ≤ n
  | 0 => Nat.le_refl _
  | n + 1 => by
    have ih := rows_len w n
    show (put (rows w n) n (w n)).length ≤ _
    unfold put
    split
    · simp
    · split
      · omega
      · simp; omega
/-- signs that come by stages -/
theorem rows_sub (labs : List Sg) (w : Nat → Sg) (ph : Nat → Nat) (hl : ∀ n, labs[ph n]? = some (w n)) (hm : ∀ n, ph n ≤ ph (n + 1)) :
    ∀ n, ((rows w (n + 1)).map (·.2)).Sublist (labs.take (ph n + 1))
  | 0 => by
    show (put [] 0 (w 0) |>.map (·.2)).Sublist _
    have h := hl 0
    show List.Sublist [w 0] _
    refine List.singleton_sublist.mpr ?_
    rw [List.mem_iff_getElem?]
    exact ⟨ph 0, by rw [List.getElem?_take_of_lt (by omega)]; exact h⟩
  | n + 1 => by
    have ih := rows_sub labs w ph hl hm n
    obtain ⟨k, hk⟩ := rows_last w n
    show ((put (rows w (n + 1)) (n + 1) (w (n + 1))).map (·.2)).Sublist _
    unfold put
    rw [hk]
    dsimp only
    have mono : ∀ {a b : Nat}, a ≤ b → (labs.take a).Sublist (labs.take b) := fun {a b} h => by
      have : labs.take a = (labs.take b).take a := by rw [List.take_take, Nat.min_eq_left h]
      rw [this]; exact List.take_sublist _ _
    split
    · exact ih.trans (mono (by have := hm n; omega))
    · rename_i hne
      have hlt : ph n < ph (n + 1) := by
        have h1 := hm n
        rcases Nat.lt_or_eq_of_le h1 with h | h
        · exact h
        · exfalso
          have h2 := hl n
          have h3 := hl (n + 1)
          rw [← h, h2] at h3
          exact hne (Option.some.inj h3)
      rw [List.map_append]
      obtain ⟨hl1, hl2⟩ := List.getElem?_eq_some_iff.mp (hl (n + 1))
      rw [← List.take_append_getElem hl1, hl2]
      exact (ih.trans (mono hlt)).append (List.Sublist.refl _)
/-- up (or down), and back at most -/
theorem up_sub {f g : Nat → Int} {c : Int} (hc : 0 < c) (hf : ∀ n, f (n + 1) = c * f n + g n) (hg : ∀ n, 0 ≤ g n → 0 < g (n + 1)) (n : Nat) :
    ((rows (fun n => sg (f n)) (n + 1)).map (·.2)).Sublist [.one, .both, .other, .both, .one] := by
  let R : Nat → Bool := fun n => match n with
    | 0 => false
    | n + 1 => decide (0 ≤ g n)
  let ph : Nat → Nat := fun n => if 0 < f n then (if R n then 4 else 0) else if f n = 0 then (if R n then 3 else 1) else 2
  have key := rows_sub [.one, .both, .other, .both, .one] (fun n => sg (f n)) ph (fun n => by
    show _ = some (if f n = 0 then Sg.both else if 0 < f n then Sg.one else Sg.other)
    show ([.one, .both, .other, .both, .one] : List Sg)[if 0 < f n then (if R n then 4 else 0) else if f n = 0 then (if R n then 3 else 1) else 2]? = _
    by_cases h : 0 < f n
    · have h0 : f n ≠ 0 := by omega
      cases R n <;> simp [h, h0]
    · by_cases h0 : f n = 0
      · cases R n <;> simp [h0]
      · simp [h, h0]) (fun n => by
    have e := hf n
    have s1 : 0 < f n → 0 < c * f n := fun h => Int.mul_pos hc h
    have s2 : f n = 0 → c * f n = 0 := fun h => by rw [h, Int.mul_zero]
    have s3 : f n < 0 → c * f n < 0 := fun h => Int.mul_neg_of_pos_of_neg hc h
    have rs : R n = true → 0 < g n := fun h => by
      cases n with
      | zero => exact absurd h (by simp [R])
      | succ k => exact hg k (of_decide_eq_true h)
    have r1 : R (n + 1) = decide (0 ≤ g n) := rfl
    show (if 0 < f n then (if R n then 4 else 0) else if f n = 0 then (if R n then 3 else 1) else 2) ≤ (if 0 < f (n + 1) then (if R (n + 1) then 4 else 0) else if f (n + 1) = 0 then (if R (n + 1) then 3 else 1) else 2)
    rw [r1]
    rcases Int.lt_trichotomy (f n) 0 with h | h | h
    · have := s3 h
      rw [if_neg (by omega), if_neg (by omega)]
      by_cases hg0 : 0 ≤ g n
      · rw [decide_eq_true hg0]; simp only [if_true]; split
        · omega
        · split <;> omega
      · rw [if_neg (by omega), if_neg (by omega)]; omega
    · have := s2 h
      rw [if_neg (by omega), if_pos h]
      by_cases hg0 : 0 ≤ g n
      · rw [decide_eq_true hg0]; simp only [if_true]
        cases hR : R n with
        | true => have := rs hR; rw [if_pos (show (0 : Int) < f (n + 1) by omega)]; simp
        | false => simp only [Bool.false_eq_true, if_false]; split
                   · omega
                   · rw [if_pos (by omega)]; omega
      · have hR : R n = false := by
          cases hR : R n with
          | false => rfl
          | true => have := rs hR; omega
        rw [hR]; simp only [Bool.false_eq_true, if_false]
        rw [if_neg (show ¬ (0 : Int) < f (n + 1) by omega), if_neg (show ¬ f (n + 1) = 0 by omega)]; omega
    · have := s1 h
      rw [if_pos h]
      by_cases hg0 : 0 ≤ g n
      · rw [decide_eq_true hg0]; simp only [if_true]; rw [if_pos (show (0 : Int) < f (n + 1) by omega)]; split <;> omega
      · have hR : R n = false := by
          cases hR : R n with
          | false => rfl
          | true => have := rs hR; omega
        rw [hR]; simp)
  exact (key n).trans (List.take_sublist _ _)
def Sg.back : Sg → Sg
  | .one => .other
  | .other => .one
  | .both => .both
theorem sg_neg (x : Int) : sg (-x) = (sg x).back := by
  unfold sg
  by_cases h : x = 0
  · simp [h, Sg.back]
  · by_cases h2 : 0 < x
    · rw [if_neg (by omega), if_neg (by omega), if_neg h, if_pos h2]; rfl
    · rw [if_neg (by omega), if_pos (by omega), if_neg h, if_neg h2]; rfl
theorem rows_back (w : Nat → Sg) : ∀ n, rows (fun n => (w n).back) n = (rows w n).map fun r => (r.1, r.2.back)
  | 0 => rfl
  | n + 1 => by
    show put (rows (fun n => (w n).back) n) n (w n).back = (put (rows w n) n (w n)).map _
    rw [rows_back w n]
    unfold put
    rw [List.getLast?_map]
    cases e : (rows w n).getLast? with
    | none => rfl
    | some r =>
      have inj : (r.2.back = (w n).back) ↔ r.2 = w n := by cases r.2 <;> cases w n <;> decide
      simp only [Option.map_some, inj]
      split
      · rfl
      · simp
theorem down_sub {f g : Nat → Int} {c : Int} (hc : 0 < c) (hf : ∀ n, f (n + 1) = c * f n + g n) (hg : ∀ n, g n ≤ 0 → g (n + 1) < 0) (n : Nat) :
    ((rows (fun n => sg (f n)) (n + 1)).map (·.2)).Sublist [.other, .both, .one, .both, .other] := by
  have h := up_sub (f := fun n => - f n) (g := fun n => - g n) hc (fun n => by show - f (n + 1) = c * (- f n) + - g n; rw [hf n]; grind) (fun n h => by have := hg n (by show g n ≤ 0; have : 0 ≤ - g n := h; omega); show 0 < - g (n + 1); omega) n
  have e : (fun n => sg (- f n)) = fun n => (sg (f n)).back := funext fun n => sg_neg _
  rw [e, rows_back] at h
  have h2 := h.map Sg.back
  rw [List.map_map, List.map_map] at h2
  have e2 : (Sg.back ∘ fun r : Nat × Sg => r.2) ∘ (fun r : Nat × Sg => (r.1, r.2.back)) = fun r => r.2 := funext fun r => by
    show r.2.back.back = r.2
    cases r.2 <;> rfl
  rw [e2] at h2
  exact h2
theorem flat_sub {f g : Nat → Int} {c : Int} (hc : 0 < c) (hf : ∀ n, f (n + 1) = c * f n + g n) (hg : ∀ n, g n = 0) (n : Nat) :
    ((rows (fun n => sg (f n)) (n + 1)).map (·.2)).Sublist [sg (f 0)] := by
  have hs : ∀ n, sg (f n) = sg (f 0) := by
    intro n
    induction n with
    | zero => rfl
    | succ k ih =>
      rw [← ih, hf k, hg k, Int.add_zero]
      unfold sg
      rcases Int.lt_trichotomy (f k) 0 with h | h | h
      · have := Int.mul_neg_of_pos_of_neg hc h
        rw [if_neg (by omega), if_neg (by omega), if_neg (by omega), if_neg (by omega)]
      · rw [h, Int.mul_zero]
      · have := Int.mul_pos hc h
        rw [if_neg (by omega), if_pos (by omega), if_neg (by omega), if_pos (by omega)]
  have := rows_sub [sg (f 0)] (fun n => sg (f n)) (fun _ => 0) (fun n => by show some (sg (f 0)) = some (sg (f n)); rw [hs n]) (fun _ => Nat.le_refl _) n
  exact this
/-- at most two changes, at most two evens -/
structure Few (ws : List Sg) : Prop where
  words : (ws.filter (· ≠ .both)).length ≤ 3
  evens : (ws.filter (· = .both)).length ≤ 2
theorem few_of {ws labs : List Sg} (h : ws.Sublist labs) (h1 : (labs.filter (· ≠ .both)).length ≤ 3) (h2 : (labs.filter (· = .both)).length ≤ 2) : Few ws :=
  ⟨Nat.le_trans (h.filter _).length_le h1, Nat.le_trans (h.filter _).length_le h2⟩
theorem few_lead {p q : Pl} (hp : p.Ok) (hq : q.Ok) (n : Nat) : Few ((rows (fun n => sg (fD p q n)) (n + 1)).map (·.2)) := by
  have h1 := hp.o1
  have h2 := hq.o1
  have hc : (0 : Int) < ((p.o * q.o : Nat) : Int) := by
    have := Nat.mul_pos h1 h2
    omega
  rcases tri (Cp p * q.o) (Cp q * p.o) ((p.o + p.m) * q.o) ((q.o + q.m) * p.o) (Nat.mul_pos (by omega) (by omega)) (Nat.mul_pos (by omega) (by omega)) with h | h | h
  · refine few_of (flat_sub hc (fD_succ p q) h n) ?_ ?_ <;> cases sg (fD p q 0) <;> decide
  · exact few_of (up_sub hc (fD_succ p q) h n) (by decide) (by decide)
  · exact few_of (down_sub hc (fD_succ p q) h n) (by decide) (by decide)
end K92
namespace K92
theorem bern (b : Nat) : ∀ k, b ^ (k + 1) + (k + 1) * b ^ k ≤ (b + 1) ^ (k + 1)
  | 0 => by simp
  | k + 1 => by
    have ih := Nat.mul_le_mul_right (b + 1) (bern b k)
    rw [Nat.pow_succ (b + 1) (k + 1)]
    refine Nat.le_trans ?_ ih
    have e : (b ^ (k + 1) + (k + 1) * b ^ k) * (b + 1) = b ^ (k + 1 + 1) + (k + 1 + 1) * b ^ (k + 1) + (k + 1) * b ^ k := by grind
    omega
theorem dom0 {a b k : Nat} (hab : b < a) (hb : b ≤ k) (hk : 1 ≤ k) : 2 * b ^ k ≤ a ^ k := by
  obtain ⟨j, rfl⟩ : ∃ j, k = j + 1 := ⟨k - 1, by omega⟩
  have h1 := bern b j
  have h2 : (b + 1) ^ (j + 1) ≤ a ^ (j + 1) := Nat.pow_le_pow_left hab _
  have h3 : b * b ^ j ≤ (j + 1) * b ^ j := Nat.mul_le_mul_right _ hb
  have h4 : b ^ (j + 1) = b * b ^ j := by rw [Nat.pow_succ, Nat.mul_comm]
  omega
theorem dom {a b k : Nat} (j N : Nat) (hab : b < a) (hb : b ≤ k) (hk : 1 ≤ k) (hN : k * j ≤ N) : 2 ^ j * b ^ N ≤ a ^ N := by
  have h := Nat.pow_le_pow_left (dom0 hab hb hk) j
  rw [Nat.mul_pow, ← Nat.pow_mul, ← Nat.pow_mul] at h
  have e : N = k * j + (N - k * j) := by omega
  rw [e, Nat.pow_add, Nat.pow_add]
  have h2 : b ^ (N - k * j) ≤ a ^ (N - k * j) := Nat.pow_le_pow_left (by omega) _
  have := Nat.mul_le_mul h h2
  rw [← Nat.mul_assoc]
  exact this
/-- small plans -/
structure Pl.Sm (p : Pl) (O : Nat) : Prop where
  s : p.s ≤ 60
  d : p.d ≤ 60
  o1 : 1 ≤ p.o
  o2 : p.o ≤ O
  m : p.m ≤ p.o
theorem Gr_pos' {p : Pl} (h : 1 ≤ p.o) (n : Nat) : 1 ≤ Gr p n := Nat.one_le_pow _ _ (by omega)
theorem Bl_pos' {p : Pl} (h : 1 ≤ p.o) (n : Nat) : 1 ≤ Bl p n := Nat.one_le_pow _ _ h
theorem Bl_le_Gr (p : Pl) (n : Nat) : Bl p n ≤ Gr p n := Nat.pow_le_pow_left (by omega) _
theorem To_low {p : Pl} {n : Nat} (ho : 1 ≤ p.o) (hm : p.m ≤ p.o) (hC : 0 < Cp p) : Gr p n ≤ To p n + Bl p n := by
  have h := Qu_mul p n
  have hq : Gr p n ≤ Qu p n + Bl p n := by
    have h1 : p.m * Qu p n ≤ p.o * Qu p n := Nat.mul_le_mul_right _ hm
    have h2 : p.o * Gr p n ≤ p.o * (Qu p n + Bl p n) := by
      rw [Nat.mul_add, Nat.mul_comm p.o (Gr p n), ← h, Nat.mul_comm p.o (Bl p n)]
      omega
    exact Nat.le_of_mul_le_mul_left h2 ho
  unfold To
  by_cases hs : p.s = 0
  · have hd : 1 ≤ p.d := by
      unfold Cp at hC
      rcases Nat.eq_zero_or_pos p.d with z | z
      · rw [hs, z] at hC; simp at hC
      · exact z
    have : 1 * Qu p n ≤ p.d * Qu p n := Nat.mul_le_mul_right _ hd
    omega
  · have : 1 * Gr p n ≤ p.s * Gr p n := Nat.mul_le_mul_right _ (by omega)
    omega
theorem To_high {p : Pl} {n : Nat} (h : p.Sm 10) (hm1 : 1 ≤ p.m) : To p n ≤ 660 * Gr p n := by
  have e := Qu_mul p n
  have h1 : 1 * Qu p n ≤ p.m * Qu p n := Nat.mul_le_mul_right _ hm1
  have h2 : Gr p n * p.o ≤ Gr p n * 10 := Nat.mul_le_mul_left _ h.o2
  have h3 : p.d * Qu p n ≤ 60 * Qu p n := Nat.mul_le_mul_right _ h.d
  have h4 : p.s * Gr p n ≤ 60 * Gr p n := Nat.mul_le_mul_right _ h.s
  unfold To
  omega
theorem Qu_zero (p : Pl) (h : p.m = 0) : ∀ n, Qu p n = n * Bl p n
  | 0 => by simp [Qu]
  | n + 1 => by
    show Qu p n * (p.o + p.m) + Bl p n * p.o = (n + 1) * (Bl p n * p.o)
    rw [Qu_zero p h n, h, Nat.add_zero, Nat.add_mul, Nat.mul_assoc, Nat.one_mul]
theorem To_flat {p : Pl} (h : p.m = 0) (n : Nat) : To p n = (p.s + p.d * n) * Bl p n := by
  have e : Gr p n = Bl p n := by unfold Gr Bl; rw [h, Nat.add_zero]
  unfold To
  rw [e, Qu_zero p h]
  grind
/-- the greater rate leads -/
theorem ahead {p q : Pl} (hp : p.Sm 10) (hq : q.Sm 10) (hr : q.m * p.o < p.m * q.o) (hC : 0 < Cp p) : 0 < fD p q 2048 := by
  have hA : Gr p 2048 * Bl q 2048 = ((p.o + p.m) * q.o) ^ 2048 := by unfold Gr Bl; rw [Nat.mul_pow]
  have hB : Gr q 2048 * Bl p 2048 = ((q.o + q.m) * p.o) ^ 2048 := by unfold Gr Bl; rw [Nat.mul_pow]
  have hab : (q.o + q.m) * p.o < (p.o + p.m) * q.o := by
    have : q.o * p.o = p.o * q.o := Nat.mul_comm _ _
    rw [Nat.add_mul, Nat.add_mul]; omega
  have hlow := To_low (n := 2048) hp.o1 hp.m hC
  have hlow2 := Nat.mul_le_mul_right (Bl q 2048) hlow
  rw [Nat.add_mul] at hlow2
  have pB : 1 ≤ Gr q 2048 * Bl p 2048 := Nat.mul_pos (Gr_pos' hq.o1 _) (Bl_pos' hp.o1 _)
  have pC : Bl p 2048 * Bl q 2048 ≤ Gr q 2048 * Bl p 2048 := by
    rw [Nat.mul_comm]; exact Nat.mul_le_mul_right _ (Bl_le_Gr q _)
  unfold fD
  suffices h : To q 2048 * Bl p 2048 < To p 2048 * Bl q 2048 by
    have : ((To q 2048 * Bl p 2048 : Nat) : Int) < ((To p 2048 * Bl q 2048 : Nat) : Int) := by exact_mod_cast h
    rw [Int.natCast_mul, Int.natCast_mul] at this
    omega
  have o1 := hp.o1; have o2 := hp.o2; have o3 := hq.o1; have o4 := hq.o2; have m1 := hq.m
  by_cases hm : q.m = 0
  · have hb : (q.o + q.m) * p.o ≤ 100 := by
      rw [hm, Nat.add_zero]
      exact Nat.mul_le_mul o4 o2
    have hd := dom (k := 100) 20 2048 hab hb (by decide) (by decide)
    rw [← hA, ← hB] at hd
    have hT := To_flat hm 2048
    have e : Gr q 2048 = Bl q 2048 := by unfold Gr Bl; rw [hm, Nat.add_zero]
    rw [e] at hd pB
    have h1 : (q.s + q.d * 2048) * Bl q 2048 ≤ 122940 * Bl q 2048 := Nat.mul_le_mul_right _ (by have := hq.s; have := hq.d; omega)
    rw [← hT] at h1
    have h2 := Nat.mul_le_mul_right (Bl p 2048) h1
    rw [Nat.mul_assoc] at h2
    have e2 : Bl p 2048 * Bl q 2048 = Bl q 2048 * Bl p 2048 := Nat.mul_comm _ _
    have e3 : (2 : Nat) ^ 20 = 1048576 := by decide
    rw [e3] at hd
    omega
  · have hb : (q.o + q.m) * p.o ≤ 200 := Nat.mul_le_mul (show q.o + q.m ≤ 20 by omega) o2
    have hd := dom (k := 200) 10 2048 hab hb (by decide) (by decide)
    rw [← hA, ← hB] at hd
    have h1 := To_high (n := 2048) hq (by omega)
    have h2 := Nat.mul_le_mul_right (Bl p 2048) h1
    rw [Nat.mul_assoc] at h2
    have e3 : (2 : Nat) ^ 10 = 1024 := by decide
    rw [e3] at hd
    omega
theorem sg_pos {x : Int} (h : 0 < x) : sg x = .one := by unfold sg; rw [if_neg (by omega), if_pos h]
theorem sg_neg' {x : Int} (h : x < 0) : sg x = .other := by unfold sg; rw [if_neg (by omega), if_neg (by omega)]
theorem sg_mul {x c : Int} (h : 0 < c) : sg (c * x) = sg x := by
  rcases Int.lt_trichotomy x 0 with h1 | h1 | h1
  · rw [sg_neg' h1, sg_neg' (Int.mul_neg_of_pos_of_neg h h1)]
  · rw [h1, Int.mul_zero]
  · rw [sg_pos h1, sg_pos (Int.mul_pos h h1)]
/-- the first one that is not even -/
def first (x y : Sg) : Sg := if x = .both then y else x
theorem lead_dom {X Y A C : Int} (hC : 0 < C) (hA : 24001 * C ≤ A) (hY : -24000 ≤ Y) (hY2 : Y ≤ 24000) : sg (X * A + Y * C) = first (sg X) (sg Y) := by
  have hA0 : 0 < A := by omega
  have y1 : Y * C ≤ 24000 * C := Int.mul_le_mul_of_nonneg_right hY2 (by omega)
  have y2 : -24000 * C ≤ Y * C := Int.mul_le_mul_of_nonneg_right hY (by omega)
  rcases Int.lt_trichotomy X 0 with h | h | h
  · have h1 : X * A ≤ -1 * A := Int.mul_le_mul_of_nonneg_right (by omega) (by omega)
    rw [sg_neg' h, sg_neg' (by omega)]; rfl
  · subst h
    rw [Int.zero_mul, Int.zero_add, Int.mul_comm, sg_mul hC]; rfl
  · have h1 : 1 * A ≤ X * A := Int.mul_le_mul_of_nonneg_right (by omega) (by omega)
    rw [sg_pos h, sg_pos (by omega)]; rfl
/-- no interest for both -/
theorem even0 {p q : Pl} {O : Nat} (hp : p.Sm O) (hq : q.Sm O) (h1 : p.m = 0) (h2 : q.m = 0) : sg (fD p q 2048) = first (sg (p.d - q.d : Int)) (sg (p.s - q.s : Int)) := by
  have pC : (0 : Int) < ((Bl p 2048 * Bl q 2048 : Nat) : Int) := by
    have := Nat.mul_pos (Bl_pos' hp.o1 2048) (Bl_pos' hq.o1 2048)
    omega
  have e : fD p q 2048 = ((Bl p 2048 * Bl q 2048 : Nat) : Int) * (((p.d : Int) - q.d) * 2048 + ((p.s : Int) - q.s) * 1) := by
    unfold fD
    rw [To_flat h1, To_flat h2]
    simp only [Int.natCast_mul, Int.natCast_add]
    grind
  rw [e, sg_mul pC]
  have := hp.s; have := hq.s; have := hp.d; have := hq.d
  rcases Int.lt_trichotomy ((p.d : Int) - q.d) 0 with h | h | h
  · rw [sg_neg' h, sg_neg' (by omega)]; rfl
  · rw [h, Int.zero_mul, Int.zero_add, Int.mul_one]; rfl
  · rw [sg_pos h, sg_pos (by omega)]; rfl
theorem even1 {p q : Pl} (hp : p.Sm 20) (hq : q.Sm 20) (hr : p.m * q.o = q.m * p.o) (h1 : 1 ≤ p.m) (h2 : 1 ≤ q.m) :
    sg (fD p q 2048) = first (sg ((Cp p : Int) * q.m - (Cp q : Int) * p.m)) (sg (-(p.d : Int) * p.o * q.m - (-(q.d : Int) * q.o * p.m))) := by
  have e1 := To_mul p 2048
  have e2 := To_mul q 2048
  have eq : Gr p 2048 * Bl q 2048 = Gr q 2048 * Bl p 2048 := by
    unfold Gr Bl
    rw [← Nat.mul_pow, ← Nat.mul_pow]
    congr 1
    grind
  have pm : (0 : Int) < ((p.m * q.m : Nat) : Int) := by have := Nat.mul_pos h1 h2; omega
  rw [← sg_mul (x := fD p q 2048) pm]
  have e : ((p.m * q.m : Nat) : Int) * fD p q 2048 = ((Cp p : Int) * q.m - (Cp q : Int) * p.m) * ((Gr p 2048 * Bl q 2048 : Nat) : Int) + (-(p.d : Int) * p.o * q.m - (-(q.d : Int) * q.o * p.m)) * ((Bl p 2048 * Bl q 2048 : Nat) : Int) := by
    have f1 : ((p.m * To p 2048 + p.d * p.o * Bl p 2048 : Nat) : Int) = ((Cp p * Gr p 2048 : Nat) : Int) := by rw [e1]
    have f2 : ((q.m * To q 2048 + q.d * q.o * Bl q 2048 : Nat) : Int) = ((Cp q * Gr q 2048 : Nat) : Int) := by rw [e2]
    have f3 : ((Gr p 2048 * Bl q 2048 : Nat) : Int) = ((Gr q 2048 * Bl p 2048 : Nat) : Int) := by rw [eq]
    unfold fD
    simp only [Int.natCast_mul, Int.natCast_add] at *
    grind
  rw [e]
  have b1 : 1 ≤ Bl p 2048 := Bl_pos' hp.o1 _
  have b2 : 1 ≤ Bl q 2048 := Bl_pos' hq.o1 _
  have bC := Nat.mul_pos b1 b2
  refine lead_dom (by omega) ?_ ?_ ?_
  · have hd := dom (a := p.o + p.m) (b := p.o) (k := 20) 15 2048 (by omega) hp.o2 (by decide) (by decide)
    have h3 : 32768 * Bl p 2048 ≤ Gr p 2048 := hd
    have h4 := Nat.mul_le_mul_right (Bl q 2048) h3
    rw [Nat.mul_assoc] at h4
    omega
  · have hd := hp.d; have ho := hp.o2; have hm := hq.m; have ho2 := hq.o2
    have k1 : p.d * p.o * q.m ≤ 60 * 20 * 20 := Nat.mul_le_mul (Nat.mul_le_mul hd ho) (by omega)
    have k2 : ((p.d * p.o * q.m : Nat) : Int) ≤ 24000 := by omega
    have k3 : (0 : Int) ≤ ((q.d * q.o * p.m : Nat) : Int) := Int.natCast_nonneg _
    simp only [Int.natCast_mul] at k2 k3
    rw [Int.neg_mul, Int.neg_mul, Int.neg_mul, Int.neg_mul]
    omega
  · have hd := hq.d; have ho := hq.o2; have hm := hp.m; have ho2 := hp.o2
    have k1 : q.d * q.o * p.m ≤ 60 * 20 * 20 := Nat.mul_le_mul (Nat.mul_le_mul hd ho) (by omega)
    have k2 : ((q.d * q.o * p.m : Nat) : Int) ≤ 24000 := by omega
    have k3 : (0 : Int) ≤ ((p.d * p.o * q.m : Nat) : Int) := Int.natCast_nonneg _
    simp only [Int.natCast_mul] at k2 k3
    rw [Int.neg_mul, Int.neg_mul, Int.neg_mul, Int.neg_mul]
    omega
theorem fD_neg (p q : Pl) (n : Nat) : fD q p n = - fD p q n := by unfold fD; omega
theorem To_none {p : Pl} (hs : p.s = 0) (hd : p.d = 0) (n : Nat) : To p n = 0 := by unfold To; rw [hs, hd]; simp
theorem To_some {p : Pl} (ho : 1 ≤ p.o) (h : p.s + p.d ≠ 0) {n : Nat} (hn : 1 ≤ n) : 0 < To p n := by
  unfold To
  have hq : 0 < Qu p n := by
    obtain ⟨k, rfl⟩ : ∃ k, n = k + 1 := ⟨n - 1, by omega⟩
    show 0 < Qu p k * (p.o + p.m) + Bl p (k + 1)
    have := Bl_pos' ho (k + 1)
    omega
  by_cases hs : p.s = 0
  · have : 0 < p.d * Qu p n := Nat.mul_pos (by omega) hq
    omega
  · have : 0 < p.s * Gr p n := Nat.mul_pos (by omega) (Gr_pos' ho n)
    omega
/-- what the program tells, by signs -/
def gp (p : Pl) : Nat := if p.m = 0 then 0 else Cp p
def rate (p q : Pl) : Sg := sg ((p.m : Int) * q.o - (q.m : Int) * p.o)
def evens (p q : Pl) : Sg := if p.m = 0 then first (sg (p.d - q.d : Int)) (sg (p.s - q.s : Int)) else first (sg ((Cp p : Int) * q.m - (Cp q : Int) * p.m)) (sg (-(p.d : Int) * p.o * q.m - (-(q.d : Int) * q.o * p.m)))
def rest (p q : Pl) : Sg := if p.s + p.d = 0 ∧ q.s + q.d = 0 then .both else if p.s + p.d = 0 then .other else .one
def lw (p q : Pl) : Sg := if rate p q = .one ∧ 0 < gp p then .one else if rate p q = .other ∧ 0 < gp q then .other else if rate p q = .both then evens p q else rest p q
theorem Cp_zero {p : Pl} (ho : 1 ≤ p.o) (hm : p.m ≠ 0) (h : Cp p = 0) : p.s = 0 ∧ p.d = 0 := by
  unfold Cp at h
  have h1 : p.s * p.m = 0 := by omega
  have h2 : p.d * p.o = 0 := by omega
  rcases Nat.mul_eq_zero.mp h1 with a | a
  · rcases Nat.mul_eq_zero.mp h2 with b | b
    · exact ⟨a, b⟩
    · omega
  · omega
theorem rest_ok {p q : Pl} (hp : 1 ≤ p.o) (hq : 1 ≤ q.o) (h : p.s + p.d = 0 ∨ q.s + q.d = 0) {n : Nat} (hn : 1 ≤ n) : sg (fD p q n) = rest p q := by
  unfold rest fD
  have b1 : (0 : Int) < (Bl p n : Int) := by have := Bl_pos' hp n; omega
  have b2 : (0 : Int) < (Bl q n : Int) := by have := Bl_pos' hq n; omega
  by_cases h1 : p.s + p.d = 0
  · rw [To_none (p := p) (by omega) (by omega)]
    by_cases h2 : q.s + q.d = 0
    · rw [To_none (p := q) (by omega) (by omega), if_pos ⟨h1, h2⟩]; simp [sg]
    · rw [if_neg (fun z => h2 z.2), if_pos h1]
      have t := To_some hq h2 hn
      have : 0 < (To q n : Int) * (Bl p n : Int) := Int.mul_pos (by omega) b1
      exact sg_neg' (by simp; omega)
  · have h2 : q.s + q.d = 0 := by omega
    rw [To_none (p := q) (by omega) (by omega), if_neg (fun z => h1 z.1), if_neg h1]
    have t := To_some hp h1 hn
    have : 0 < (To p n : Int) * (Bl q n : Int) := Int.mul_pos (by omega) b2
    exact sg_pos (by simp; omega)
/-- two small plans: of unlike rates with lower numbers to ten, or of one rate -/
structure Pair (x y : Pl) : Prop where
  p : x.Sm 20
  q : y.Sm 20
  or : (x.o ≤ 10 ∧ y.o ≤ 10) ∨ x.m * y.o = y.m * x.o
theorem last_ok {p q : Pl} (h : Pair p q) : sg (fD p q 2048) = lw p q := by
  have hp := h.p
  have hq := h.q
  have er : ((p.m : Int) * q.o - (q.m : Int) * p.o) = ((p.m * q.o : Nat) : Int) - ((q.m * p.o : Nat) : Int) := by simp
  unfold lw rate
  rw [er]
  rcases Nat.lt_trichotomy (p.m * q.o) (q.m * p.o) with hr | hr | hr
  · have o10 : p.o ≤ 10 ∧ q.o ≤ 10 := by rcases h.or with z | z; exact z; omega
    rw [sg_neg' (x := ((p.m * q.o : Nat) : Int) - ((q.m * p.o : Nat) : Int)) (by omega)]
    rw [if_neg (fun z => by cases z.1)]
    have hm : q.m ≠ 0 := fun z => by rw [z] at hr; simp at hr
    have eg : gp q = Cp q := by unfold gp; rw [if_neg hm]
    rw [eg]
    by_cases hC : 0 < Cp q
    · rw [if_pos ⟨rfl, hC⟩]
      have := ahead (p := q) (q := p) ⟨hq.s, hq.d, hq.o1, o10.2, hq.m⟩ ⟨hp.s, hp.d, hp.o1, o10.1, hp.m⟩ hr hC
      rw [fD_neg] at this
      exact sg_neg' (by omega)
    · rw [if_neg (fun z => hC z.2), if_neg (by decide)]
      obtain ⟨a, b⟩ := Cp_zero hq.o1 hm (by omega)
      exact rest_ok (n := 2048) hp.o1 hq.o1 (.inr (by omega)) (by decide)
  · rw [hr, Int.sub_self]
    have e0 : sg 0 = .both := rfl
    rw [e0, if_neg (fun z => by cases z.1), if_neg (fun z => by cases z.1), if_pos rfl]
    unfold evens
    have ho1 := hp.o1; have ho2 := hq.o1
    by_cases hm : p.m = 0
    · rw [if_pos hm]
      have hm2 : q.m = 0 := by
        rw [hm, Nat.zero_mul] at hr
        rcases Nat.mul_eq_zero.mp hr.symm with z | z
        · exact z
        · omega
      exact even0 hp hq hm hm2
    · rw [if_neg hm]
      have hm2 : q.m ≠ 0 := fun z => by
        rw [z, Nat.zero_mul] at hr
        rcases Nat.mul_eq_zero.mp hr with z | z <;> omega
      exact even1 hp hq hr (by omega) (by omega)
  · have o10 : p.o ≤ 10 ∧ q.o ≤ 10 := by rcases h.or with z | z; exact z; omega
    rw [sg_pos (x := ((p.m * q.o : Nat) : Int) - ((q.m * p.o : Nat) : Int)) (by omega)]
    have hm : p.m ≠ 0 := fun z => by rw [z] at hr; simp at hr
    have eg : gp p = Cp p := by unfold gp; rw [if_neg hm]
    rw [eg]
    by_cases hC : 0 < Cp p
    · rw [if_pos ⟨rfl, hC⟩]
      exact sg_pos (ahead ⟨hp.s, hp.d, hp.o1, o10.1, hp.m⟩ ⟨hq.s, hq.d, hq.o1, o10.2, hq.m⟩ hr hC)
    · rw [if_neg (fun z => hC z.2), if_neg (fun z => by cases z.1), if_neg (by decide)]
      obtain ⟨a, b⟩ := Cp_zero hp.o1 hm (by omega)
      exact rest_ok (n := 2048) hp.o1 hq.o1 (.inl (by omega)) (by decide)
theorem Pair.swap {p q : Pl} (h : Pair p q) : Pair q p := ⟨h.q, h.p, h.or.elim (fun z => .inl ⟨z.2, z.1⟩) fun z => .inr z.symm⟩
theorem last_back {p q : Pl} (h : Pair p q) : lw q p = (lw p q).back := by
  rw [← last_ok h, ← last_ok h.swap, fD_neg, sg_neg]
theorem last_empty {p q : Pl} (hp : 1 ≤ p.o) (hq : 1 ≤ q.o) (h : q.s = 0 ∧ q.d = 0) : lw p q = if p.s + p.d = 0 then .both else .one := by
  have eC : Cp q = 0 := by unfold Cp; rw [h.1, h.2]; simp
  have eg : gp q = 0 := by unfold gp; rw [eC]; simp
  have erest : rest p q = if p.s + p.d = 0 then .both else .one := by
    unfold rest
    by_cases h1 : p.s + p.d = 0
    · rw [if_pos ⟨h1, by omega⟩, if_pos h1]
    · rw [if_neg (fun z => h1 z.1), if_neg h1, if_neg h1]
  have er : ((p.m : Int) * q.o - (q.m : Int) * p.o) = ((p.m * q.o : Nat) : Int) - ((q.m * p.o : Nat) : Int) := by simp
  unfold lw
  rw [eg, erest]
  by_cases h1 : rate p q = .one ∧ 0 < gp p
  · rw [if_pos h1]
    have : p.s + p.d ≠ 0 := fun z => by
      have h2 := h1.2
      unfold gp Cp at h2
      have z1 : p.s = 0 := by omega
      have z2 : p.d = 0 := by omega
      rw [z1, z2] at h2
      simp at h2
    rw [if_neg this]
  · rw [if_neg h1, if_neg (fun z => absurd z.2 (Nat.lt_irrefl _))]
    by_cases h2 : rate p q = .both
    · rw [if_pos h2]
      unfold evens
      rw [h.1, h.2, eC]
      by_cases hm : p.m = 0
      · rw [if_pos hm]
        unfold first sg
        by_cases z1 : p.d = 0
        · by_cases z2 : p.s = 0
          · simp [z1, z2]
          · have th' : 0 < p.s := by omega
            simp [z1, z2, th']
        · have : (0 : Int) < p.d := by omega
          have th' : 0 < p.d := by omega
          simp [z1, th']
      · rw [if_neg hm]
        have hq0 : (0 : Int) < q.m := by
          have : q.m ≠ 0 := fun z => by
            unfold rate at h2
            rw [z] at h2
            have : (0 : Int) < (p.m : Int) * q.o := Int.mul_pos (by omega) (by omega)
            rw [sg_pos (by simpa using this)] at h2
            cases h2
          omega
        by_cases h3 : p.s + p.d = 0
        · have z1 : p.s = 0 := by omega
          have z2 : p.d = 0 := by omega
          rw [if_pos h3]
          unfold Cp
          rw [z1, z2]
          simp [first, sg]
        · rw [if_neg h3]
          have hc : 0 < Cp p := by
            rcases Nat.eq_zero_or_pos (Cp p) with z | z
            · have := Cp_zero hp hm z; omega
            · exact z
          have : (0 : Int) < (Cp p : Int) * q.m := Int.mul_pos (by omega) hq0
          unfold first
          rw [sg_pos (by simpa using this)]
          rfl
    · rw [if_neg h2]
theorem last_self (p : Pl) : lw p p = .both := by
  have h : rate p p = .both := by unfold rate; rw [Int.sub_self]; rfl
  unfold lw
  rw [h, if_neg (fun z => by cases z.1), if_neg (fun z => by cases z.1), if_pos rfl]
  unfold evens
  split <;> simp [first, sg]
end K92
namespace K92
open PySem PySem.Spec PyProof.Rows L2 Dn
def top (i : Nat) : Stmt := PySem.Challenge.pw_coinmaster_k92_whole_leads_of_savings.main.body.getD i (.Pass ⟨0, 0, 0, 0⟩)
def tfs : List Str := ["law", "_law_right"]
structure Fx (K : PySem.W.Frag) (mg : Str → Option Value) : Prop where
  f_is_whole : Fn1 K mg "is_whole" (top 5)
  f_fits_whole : Fn1 K mg "fits_whole" (top 6)
  f_is_tuple_of : Fn1 K mg "is_tuple_of" (top 7)
  f_common_divisor : Fn1 K mg "common_divisor" (top 8)
  f_fits_plan : Fn1 K mg "fits_plan" (top 13)
  f_need_plan : Fn1 K mg "need_plan" (top 14)
  f_need_number : Fn1 K mg "need_number" (top 15)
  f_power_of : Fn1 K mg "power_of" (top 16)
  f_parts_in : Fn1 K mg "parts_in" (top 17)
  f_held_in : Fn1 K mg "held_in" (top 18)
  f_lowest : Fn1 K mg "lowest" (top 19)
  f_word_for : Fn1 K mg "word_for" (top 21)
  f_who_leads : Fn1 K mg "who_leads" (top 20)
  f_terms_of : Fn1 K mg "terms_of" (top 22)
  f_compared : Fn1 K mg "compared" (top 23)
  f_rest_word : Fn1 K mg "rest_word" (top 25)
  f_last_word : Fn1 K mg "last_word" (top 24)
  f_balance : Fn1 K mg "balance" (top 26)
  f_lead_changes : Fn1 K mg "lead_changes" (top 27)
  f_final_leader : Fn1 K mg "final_leader" (top 28)
  f__law_cup : Fn1 K mg "_law_cup" (top 30)
  f__law_roll : Fn1 K mg "_law_roll" (top 31)
  f__law_some : Fn1 K mg "_law_some" (top 32)
  f__law_same : Fn1 K mg "_law_same" (top 33)
  f__law_plan : Fn1 K mg "_law_plan" (top 34)
  f__law_steps : Fn1 K mg "_law_steps" (top 35)
  f__law_word_for : Fn1 K mg "_law_word_for" (top 36)
  f__law_far : Fn1 K mg "_law_far" (top 37)
  f__law_pair : Fn1 K mg "_law_pair" (top 38)
  f__law_changes : Fn1 K mg "_law_changes" (top 39)
  f__law_right : Fn1 K mg "_law_right" (top 40)
  f__law_met_right : Fn1 K mg "_law_met_right" (top 41)
  f_law : Fn1 K mg "law" (top 42)
  b_isinstance : mg "isinstance" = none
  b_int : mg "int" = none
  b_bool : mg "bool" = none
  b_tuple : mg "tuple" = none
  b_len : mg "len" = none
  b_all : mg "all" = none
  b_abs : mg "abs" = none
  b_range : mg "range" = none
  b_list : mg "list" = none
  b_str : mg "str" = none
  b_min : mg "min" = none
  b_enumerate : mg "enumerate" = none
  b_zip : mg "zip" = none
  i_GREAT : ∃ t, mg "GREAT" = some (.int 1000000 t)
  i_RATE : ∃ t, mg "RATE" = some (.int 10000 t)
  i_PERIODS : ∃ t, mg "PERIODS" = some (.int 300 t)
  g_InvalidCosts : mg "InvalidCosts" = some (.ref (He.ga K "InvalidCosts"))
  g_InvalidNumber : mg "InvalidNumber" = some (.ref (He.ga K "InvalidNumber"))
  r_InvalidCosts : ExcK K mg "InvalidCosts"
  r_InvalidNumber : ExcK K mg "InvalidNumber"
  tab : tabX K tfs = true
/-! ### is_whole -/
theorem sc_is_whole : FnScope ["value"] ["value"] (defScope (top 5)) := ⟨rfl, rfl, rfl, by decide +kernel, rfl, by decide +kernel, by decide +kernel⟩
@[irreducible] noncomputable def b_is_whole : FS := (sRet (andE (eL isiD (aCons (gv 0) (aCons (cst (.ty "int")) aNil))) (notE (eL isiD (aCons (gv 0) (aCons (cst (.ty "bool")) aNil))))))
noncomputable def F_is_whole : FF := runF 1 (b_is_whole)
theorem ok_is_whole {P : Program} {w : World} {K : PySem.W.Frag} {mg : Str → Option Value} {base : Heap} (S : Fx K mg) (T : Tx K mg base tfs) : FOk P w K mg base 1 "is_whole" 1 F_is_whole := by
  have sc := sc_is_whole
  have hN := sc.nd
  refine (Fn1.ok (k := 0) S.f_is_whole sc rfl (fun cdv A outer s H E f hr tk hp => ?_) (fun _ _ _ _ _ _ us hl => match us, hl with | [_], _ => rfl))
  have hu := hr.units
  have hu5 := room65 hr
  exact (by unfold b_is_whole; exact (dss_one (ds_ret (de_and (de_callB callD_isi S.b_isinstance rfl (da_cons (de_v 0) (da_cons (de_ty S.b_int rfl) da_nil))) (de_one (de_not (de_callB callD_isi S.b_isinstance rfl (da_cons (de_v 0) (da_cons (de_ty S.b_bool rfl) da_nil)))))))))
/-! ### fits_whole -/
theorem sc_fits_whole : FnScope ["value", "low", "high"] ["value", "low", "high"] (defScope (top 6)) := ⟨rfl, rfl, rfl, by decide +kernel, rfl, by decide +kernel, by decide +kernel⟩
@[irreducible] noncomputable def b_fits_whole : FS := (sRet (andE (eCall 1 F_is_whole (aCons (gv 0) aNil)) (chn leI leI (gv 1) (gv 0) (gv 2))))
noncomputable def F_fits_whole : FF := runF 3 (b_fits_whole)
theorem ok_fits_whole {P : Program} {w : World} {K : PySem.W.Frag} {mg : Str → Option Value} {base : Heap} (S : Fx K mg) (T : Tx K mg base tfs) : FOk P w K mg base 2 "fits_whole" 3 F_fits_whole := by
  have c_is_whole := ok_is_whole (P := P) (w := w) (base := base) S T
  have sc := sc_fits_whole
  have hN := sc.nd
  refine (Fn1.ok (k := 1) S.f_fits_whole sc rfl (fun cdv A outer s H E f hr tk hp => ?_) (fun _ _ _ _ _ _ us hl => match us, hl with | [_, _, _], _ => rfl))
  have hu := hr.units
  have hu5 := room65 hr
  exact (by unfold b_fits_whole; exact (dss_one (ds_ret (de_and (de_callF c_is_whole tk (hr.mono (by omega)) (da_cons (de_v 0) da_nil)) (de_one (de_chain opD_le opD_le (de_v 1) (de_v 0) (de_v 2)))))))
/-! ### is_tuple_of -/
theorem sc_is_tuple_of : FnScope ["value", "least", "most"] ["value", "least", "most"] (defScope (top 7)) := ⟨rfl, rfl, rfl, by decide +kernel, rfl, by decide +kernel, by decide +kernel⟩
@[irreducible] noncomputable def b_is_tuple_of : FS := (sRet (andE (eL isiD (aCons (gv 0) (aCons (cst (.ty "tuple")) aNil))) (chn leI leI (gv 1) (eL lenD (aCons (gv 0) aNil)) (gv 2))))
noncomputable def F_is_tuple_of : FF := runF 3 (b_is_tuple_of)
theorem ok_is_tuple_of {P : Program} {w : World} {K : PySem.W.Frag} {mg : Str → Option Value} {base : Heap} (S : Fx K mg) (T : Tx K mg base tfs) : FOk P w K mg base 1 "is_tuple_of" 3 F_is_tuple_of := by
  have sc := sc_is_tuple_of
  have hN := sc.nd
  refine (Fn1.ok (k := 0) S.f_is_tuple_of sc rfl (fun cdv A outer s H E f hr tk hp => ?_) (fun _ _ _ _ _ _ us hl => match us, hl with | [_, _, _], _ => rfl))
  have hu := hr.units
  have hu5 := room65 hr
  exact (by unfold b_is_tuple_of; exact (dss_one (ds_ret (de_and (de_callB callD_isi S.b_isinstance rfl (da_cons (de_v 0) (da_cons (de_ty S.b_tuple rfl) da_nil))) (de_one (de_chain opD_le opD_le (de_v 1) (de_callB callD_len S.b_len rfl (da_cons (de_v 0) da_nil)) (de_v 2)))))))
/-! ### common_divisor -/
theorem sc_common_divisor : FnScope ["one", "other"] ["one", "other"] (defScope (top 8)) := ⟨rfl, rfl, rfl, by decide +kernel, rfl, by decide +kernel, by decide +kernel⟩
@[irreducible] noncomputable def b_common_divisor_1 : FS := (sPar 0 1 (gv 1) (e2 modD (gv 0) (gv 1)))
@[irreducible] noncomputable def b_common_divisor : FS := (sSeq (whl (tst (e2 gtI (gv 1) (cst (.int 0)))) b_common_divisor_1 fuel)
    (sRet (gv 0)))
noncomputable def F_common_divisor : FF := runF 2 (b_common_divisor)
theorem ok_common_divisor {P : Program} {w : World} {K : PySem.W.Frag} {mg : Str → Option Value} {base : Heap} (S : Fx K mg) (T : Tx K mg base tfs) : FOk P w K mg base 1 "common_divisor" 2 F_common_divisor := by
  have sc := sc_common_divisor
  have hN := sc.nd
  refine (Fn1.ok (k := 0) S.f_common_divisor sc rfl (fun cdv A outer s H E f hr tk hp => ?_) (fun _ _ _ _ _ _ us hl => match us, hl with | [_, _], _ => rfl))
  have hu := hr.units
  have hu5 := room65 hr
  exact (by unfold b_common_divisor b_common_divisor_1; exact (dss_cons (ds_while hp (dt_cmp opD_gt (de_v 1) de_int) (dss_one (ds_par 0 1 rfl hN (de_v 1) (de_op opD_mod (de_v 0) (de_v 1)))))
    (dss_one (ds_ret (de_v 0)))))
/-! ### fits_plan -/
theorem sc_fits_plan : FnScope ["value", "one"] ["value"] (defScope (top 13)) := ⟨rfl, rfl, rfl, by decide +kernel, rfl, by decide +kernel, by decide +kernel⟩
@[irreducible] noncomputable def b_fits_plan : FS := (sSeq (sIf (orT (notT (tru (eCall 3 F_is_tuple_of (aCons (gv 0) (aCons (cst (.int 4)) (aCons (cst (.int 4)) aNil)))))) (notT (tru (eL allD (aCons (lc fuel [1] (iVal (eSl slD (gv 0) oNone (oSome (cst (.int 2))))) (bN 1) yes (eCall 3 F_fits_whole (aCons (gv 1) (aCons (cst (.int 0)) (aCons (cst (.int 1000000)) aNil))))) aNil))))) (sRet (cst (.bl false))) sNil)
    (sRet (andE (eCall 3 F_fits_whole (aCons (e2 ixD (gv 0) (cst (.int 3))) (aCons (cst (.int 1)) (aCons (cst (.int 10000)) aNil)))) (eCall 3 F_fits_whole (aCons (e2 ixD (gv 0) (cst (.int 2))) (aCons (cst (.int 0)) (aCons (e2 ixD (gv 0) (cst (.int 3))) aNil)))))))
noncomputable def F_fits_plan : FF := runF 2 (b_fits_plan)
theorem ok_fits_plan {P : Program} {w : World} {K : PySem.W.Frag} {mg : Str → Option Value} {base : Heap} (S : Fx K mg) (T : Tx K mg base tfs) : FOk P w K mg base 3 "fits_plan" 1 F_fits_plan := by
  have c_fits_whole := ok_fits_whole (P := P) (w := w) (base := base) S T
  have c_is_tuple_of := ok_is_tuple_of (P := P) (w := w) (base := base) S T
  have sc := sc_fits_plan
  have hN := sc.nd
  refine (Fn1.ok (k := 2) S.f_fits_plan sc rfl (fun cdv A outer s H E f hr tk hp => ?_) (fun _ _ _ _ _ _ us hl => match us, hl with | [_], _ => rfl))
  have hu := hr.units
  have hu5 := room65 hr
  exact (by unfold b_fits_plan; exact (dss_cons (ds_if (dt_w (dw_or (dt_not (dt_tru (de_callF c_is_tuple_of tk (hr.mono (by omega)) (da_cons (de_v 0) (da_cons de_int (da_cons de_int da_nil)))))) (dw_or1 (dt_not (dt_tru (de_callB (callD_all rfl) S.b_all rfl (da_cons (de_lc rfl hN (di_val (de_slice slD_ok (de_v 0) do_none (do_some de_int))) (blkOk_by (own := [("one", 1)]) (by kernel_rfl)) (fun _ _ _ _ _ => (dg_n 1 hN)) (fun _ _ _ _ _ => dts_nil) (fun _ _ _ _ _ => (de_callF c_fits_whole tk0 (hr.mono (by omega)) (da_cons (de_v 1) (da_cons de_int (da_cons (de_gint S.i_GREAT) da_nil)))))) da_nil))))))) (dss_one (ds_ret de_bl)) dss_nil)
    (dss_one (ds_ret (de_and (de_callF c_fits_whole tk (hr.mono (by omega)) (da_cons (de_ix ixD_seq (de_v 0) de_int) (da_cons de_int (da_cons (de_gint S.i_RATE) da_nil)))) (de_one (de_callF c_fits_whole tk (hr.mono (by omega)) (da_cons (de_ix ixD_seq (de_v 0) de_int) (da_cons de_int (da_cons (de_ix ixD_seq (de_v 0) de_int) da_nil))))))))))
/-! ### need_plan -/
theorem sc_need_plan : FnScope ["value"] ["value"] (defScope (top 14)) := ⟨rfl, rfl, rfl, by decide +kernel, rfl, by decide +kernel, by decide +kernel⟩
@[irreducible] noncomputable def b_need_plan : FS := (sIf (notT (tru (eCall 1 F_fits_plan (aCons (gv 0) aNil)))) noS sNil)
noncomputable def F_need_plan : FF := runF 1 (b_need_plan)
theorem ok_need_plan {P : Program} {w : World} {K : PySem.W.Frag} {mg : Str → Option Value} {base : Heap} (S : Fx K mg) (T : Tx K mg base tfs) : FOk P w K mg base 4 "need_plan" 1 F_need_plan := by
  have c_fits_plan := ok_fits_plan (P := P) (w := w) (base := base) S T
  have sc := sc_need_plan
  have hN := sc.nd
  refine (Fn1.ok (k := 3) S.f_need_plan sc rfl (fun cdv A outer s H E f hr tk hp => ?_) (fun _ _ _ _ _ _ us hl => match us, hl with | [_], _ => rfl))
  have hu := hr.units
  have hu5 := room65 hr
  exact (by unfold b_need_plan; exact (dss_one (ds_if (dt_not (dt_tru (de_callF c_fits_plan tk (hr.mono (by omega)) (da_cons (de_v 0) da_nil)))) (dss_one ds_no) dss_nil)))
/-! ### need_number -/
theorem sc_need_number : FnScope ["value", "low", "high"] ["value", "low", "high"] (defScope (top 15)) := ⟨rfl, rfl, rfl, by decide +kernel, rfl, by decide +kernel, by decide +kernel⟩
@[irreducible] noncomputable def b_need_number : FS := (sIf (notT (tru (eCall 3 F_fits_whole (aCons (gv 0) (aCons (gv 1) (aCons (gv 2) aNil)))))) noS sNil)
noncomputable def F_need_number : FF := runF 3 (b_need_number)
theorem ok_need_number {P : Program} {w : World} {K : PySem.W.Frag} {mg : Str → Option Value} {base : Heap} (S : Fx K mg) (T : Tx K mg base tfs) : FOk P w K mg base 3 "need_number" 3 F_need_number := by
  have c_fits_whole := ok_fits_whole (P := P) (w := w) (base := base) S T
  have sc := sc_need_number
  have hN := sc.nd
  refine (Fn1.ok (k := 2) S.f_need_number sc rfl (fun cdv A outer s H E f hr tk hp => ?_) (fun _ _ _ _ _ _ us hl => match us, hl with | [_, _, _], _ => rfl))
  have hu := hr.units
  have hu5 := room65 hr
  exact (by unfold b_need_number; exact (dss_one (ds_if (dt_not (dt_tru (de_callF c_fits_whole tk (hr.mono (by omega)) (da_cons (de_v 0) (da_cons (de_v 1) (da_cons (de_v 2) da_nil)))))) (dss_one ds_no) dss_nil)))
/-! ### power_of -/
theorem sc_power_of : FnScope ["base", "many", "found"] ["base", "many"] (defScope (top 16)) := ⟨rfl, rfl, rfl, by decide +kernel, rfl, by decide +kernel, by decide +kernel⟩
@[irreducible] noncomputable def b_power_of_1 : FS := (sPar3 2 0 1 (ifE (tst (e2 eqD (e2 modD (gv 1) (cst (.int 2))) (cst (.int 1)))) (e2 mulD (gv 2) (gv 0)) (gv 2)) (e2 mulD (gv 0) (gv 0)) (e2 fdivD (gv 1) (cst (.int 2))))
@[irreducible] noncomputable def b_power_of : FS := (sSeq (sAsg (cst (.int 1)) (bN 2))
    (sSeq (whl (tst (e2 gtI (gv 1) (cst (.int 0)))) b_power_of_1 fuel)
    (sRet (gv 2))))
noncomputable def F_power_of : FF := runF 3 (b_power_of)
theorem ok_power_of {P : Program} {w : World} {K : PySem.W.Frag} {mg : Str → Option Value} {base : Heap} (S : Fx K mg) (T : Tx K mg base tfs) : FOk P w K mg base 1 "power_of" 2 F_power_of := by
  have sc := sc_power_of
  have hN := sc.nd
  refine (Fn1.ok (k := 0) S.f_power_of sc rfl (fun cdv A outer s H E f hr tk hp => ?_) (fun _ _ _ _ _ _ us hl => match us, hl with | [_, _], _ => rfl))
  have hu := hr.units
  have hu5 := room65 hr
  exact (by unfold b_power_of b_power_of_1; exact (dss_cons (ds_set 2 hN de_int)
    (dss_cons (ds_while hp (dt_cmp opD_gt (de_v 1) de_int) (dss_one (ds_par3 2 0 1 rfl hN (de_if (dt_cmp (opD_eq hu) (de_op opD_mod (de_v 1) de_int) de_int) (de_op opD_mul (de_v 2) (de_v 0)) (de_v 2)) (de_op opD_mul (de_v 0) (de_v 0)) (de_op opD_fdiv (de_v 1) de_int))))
    (dss_one (ds_ret (de_v 2))))))
/-! ### parts_in -/
theorem sc_parts_in : FnScope ["plan", "periods", "many", "of", "grown", "below"] ["plan", "periods"] (defScope (top 17)) := ⟨rfl, rfl, rfl, by decide +kernel, rfl, by decide +kernel, by decide +kernel⟩
@[irreducible] noncomputable def b_parts_in : FS := (sSeq (sPar 2 3 (e2 ixD (gv 0) (cst (.int 2))) (e2 ixD (gv 0) (cst (.int 3))))
    (sSeq (sPar 4 5 (eCall 2 F_power_of (aCons (e2 addD (gv 3) (gv 2)) (aCons (gv 1) aNil))) (eCall 2 F_power_of (aCons (gv 3) (aCons (gv 1) aNil))))
    (sSeq (sIf (tst (e2 eqD (gv 2) (cst (.int 0)))) (sRet (mkT (aCons (gv 4) (aCons (e2 mulD (gv 1) (gv 5)) (aCons (gv 5) aNil))))) sNil)
    (sRet (mkT (aCons (gv 4) (aCons (e2 fdivD (e2 mulD (e2 subD (gv 4) (gv 5)) (gv 3)) (gv 2)) (aCons (gv 5) aNil))))))))
noncomputable def F_parts_in : FF := runF 6 (b_parts_in)
theorem ok_parts_in {P : Program} {w : World} {K : PySem.W.Frag} {mg : Str → Option Value} {base : Heap} (S : Fx K mg) (T : Tx K mg base tfs) : FOk P w K mg base 2 "parts_in" 2 F_parts_in := by
  have c_power_of := ok_power_of (P := P) (w := w) (base := base) S T
  have sc := sc_parts_in
  have hN := sc.nd
  refine (Fn1.ok (k := 1) S.f_parts_in sc rfl (fun cdv A outer s H E f hr tk hp => ?_) (fun _ _ _ _ _ _ us hl => match us, hl with | [_, _], _ => rfl))
  have hu := hr.units
  have hu5 := room65 hr
  exact (by unfold b_parts_in; exact (dss_cons (ds_par 2 3 rfl hN (de_ix ixD_seq (de_v 0) de_int) (de_ix ixD_seq (de_v 0) de_int))
    (dss_cons (ds_par 4 5 rfl hN (de_callF c_power_of tk (hr.mono (by omega)) (da_cons (de_op opD_add (de_v 3) (de_v 2)) (da_cons (de_v 1) da_nil))) (de_callF c_power_of tk (hr.mono (by omega)) (da_cons (de_v 3) (da_cons (de_v 1) da_nil))))
    (dss_cons (ds_if (dt_cmp (opD_eq hu) (de_v 2) de_int) (dss_one (ds_ret (de_tup (da_cons (de_v 4) (da_cons (de_op opD_mul (de_v 1) (de_v 5)) (da_cons (de_v 5) da_nil)))))) dss_nil)
    (dss_one (ds_ret (de_tup (da_cons (de_v 4) (da_cons (de_op opD_fdiv (de_op opD_mul (de_op opD_sub (de_v 4) (de_v 5)) (de_v 3)) (de_v 2)) (da_cons (de_v 5) da_nil))))))))))
/-! ### held_in -/
theorem sc_held_in : FnScope ["plan", "periods", "grown", "puts", "below"] ["plan", "periods"] (defScope (top 18)) := ⟨rfl, rfl, rfl, by decide +kernel, rfl, by decide +kernel, by decide +kernel⟩
@[irreducible] noncomputable def b_held_in : FS := (sSeq (sAsg (eCall 2 F_parts_in (aCons (gv 0) (aCons (gv 1) aNil))) (bT [(bN 2), (bN 3), (bN 4)]))
    (sRet (mkT (aCons (e2 addD (e2 mulD (e2 ixD (gv 0) (cst (.int 0))) (gv 2)) (e2 mulD (e2 ixD (gv 0) (cst (.int 1))) (gv 3))) (aCons (gv 4) aNil)))))
noncomputable def F_held_in : FF := runF 5 (b_held_in)
theorem ok_held_in {P : Program} {w : World} {K : PySem.W.Frag} {mg : Str → Option Value} {base : Heap} (S : Fx K mg) (T : Tx K mg base tfs) : FOk P w K mg base 3 "held_in" 2 F_held_in := by
  have c_parts_in := ok_parts_in (P := P) (w := w) (base := base) S T
  have sc := sc_held_in
  have hN := sc.nd
  refine (Fn1.ok (k := 2) S.f_held_in sc rfl (fun cdv A outer s H E f hr tk hp => ?_) (fun _ _ _ _ _ _ us hl => match us, hl with | [_, _], _ => rfl))
  have hu := hr.units
  have hu5 := room65 hr
  exact (by unfold b_held_in; exact (dss_cons (ds_asg (dg_t rfl (dgs_cons (dg_n 2 hN) (dgs_cons (dg_n 3 hN) (dgs_cons (dg_n 4 hN) dgs_nil)))) (de_callF c_parts_in tk (hr.mono (by omega)) (da_cons (de_v 0) (da_cons (de_v 1) da_nil))))
    (dss_one (ds_ret (de_tup (da_cons (de_op opD_add (de_op opD_mul (de_ix ixD_seq (de_v 0) de_int) (de_v 2)) (de_op opD_mul (de_ix ixD_seq (de_v 0) de_int) (de_v 3))) (da_cons (de_v 4) da_nil)))))))
/-! ### lowest -/
theorem sc_lowest : FnScope ["top", "below", "least"] ["top", "below"] (defScope (top 19)) := ⟨rfl, rfl, rfl, by decide +kernel, rfl, by decide +kernel, by decide +kernel⟩
@[irreducible] noncomputable def b_lowest : FS := (sSeq (sAsg (eCall 2 F_common_divisor (aCons (eL absD (aCons (gv 0) aNil)) (aCons (gv 1) aNil))) (bN 2))
    (sRet (mkT (aCons (e2 fdivD (gv 0) (gv 2)) (aCons (e2 fdivD (gv 1) (gv 2)) aNil)))))
noncomputable def F_lowest : FF := runF 3 (b_lowest)
theorem ok_lowest {P : Program} {w : World} {K : PySem.W.Frag} {mg : Str → Option Value} {base : Heap} (S : Fx K mg) (T : Tx K mg base tfs) : FOk P w K mg base 2 "lowest" 2 F_lowest := by
  have c_common_divisor := ok_common_divisor (P := P) (w := w) (base := base) S T
  have sc := sc_lowest
  have hN := sc.nd
  refine (Fn1.ok (k := 1) S.f_lowest sc rfl (fun cdv A outer s H E f hr tk hp => ?_) (fun _ _ _ _ _ _ us hl => match us, hl with | [_, _], _ => rfl))
  have hu := hr.units
  have hu5 := room65 hr
  exact (by unfold b_lowest; exact (dss_cons (ds_set 2 hN (de_callF c_common_divisor tk (hr.mono (by omega)) (da_cons (de_callB callD_abs S.b_abs rfl (da_cons (de_v 0) da_nil)) (da_cons (de_v 1) da_nil))))
    (dss_one (ds_ret (de_tup (da_cons (de_op opD_fdiv (de_v 0) (de_v 2)) (da_cons (de_op opD_fdiv (de_v 1) (de_v 2)) da_nil)))))))
/-! ### word_for -/
theorem sc_word_for : FnScope ["one", "other"] ["one", "other"] (defScope (top 21)) := ⟨rfl, rfl, rfl, by decide +kernel, rfl, by decide +kernel, by decide +kernel⟩
@[irreducible] noncomputable def b_word_for : FS := (sSeq (sIf (tst (e2 eqD (gv 0) (gv 1))) (sRet (cst (.str "both"))) sNil)
    (sRet (ifE (tst (e2 gtI (gv 0) (gv 1))) (cst (.str "one")) (cst (.str "other")))))
noncomputable def F_word_for : FF := runF 2 (b_word_for)
theorem ok_word_for {P : Program} {w : World} {K : PySem.W.Frag} {mg : Str → Option Value} {base : Heap} (S : Fx K mg) (T : Tx K mg base tfs) : FOk P w K mg base 1 "word_for" 2 F_word_for := by
  have sc := sc_word_for
  have hN := sc.nd
  refine (Fn1.ok (k := 0) S.f_word_for sc rfl (fun cdv A outer s H E f hr tk hp => ?_) (fun _ _ _ _ _ _ us hl => match us, hl with | [_, _], _ => rfl))
  have hu := hr.units
  have hu5 := room65 hr
  exact (by unfold b_word_for; exact (dss_cons (ds_if (dt_cmp (opD_eq hu) (de_v 0) (de_v 1)) (dss_one (ds_ret de_str)) dss_nil)
    (dss_one (ds_ret (de_if (dt_cmp opD_gt (de_v 0) (de_v 1)) de_str de_str)))))
/-! ### who_leads -/
theorem sc_who_leads : FnScope ["one", "other", "periods", "top", "below", "more", "under"] ["one", "other", "periods"] (defScope (top 20)) := ⟨rfl, rfl, rfl, by decide +kernel, rfl, by decide +kernel, by decide +kernel⟩
@[irreducible] noncomputable def b_who_leads : FS := (sSeq (sAsg (eCall 2 F_held_in (aCons (gv 0) (aCons (gv 2) aNil))) (bT [(bN 3), (bN 4)]))
    (sSeq (sAsg (eCall 2 F_held_in (aCons (gv 1) (aCons (gv 2) aNil))) (bT [(bN 5), (bN 6)]))
    (sRet (eCall 2 F_word_for (aCons (e2 mulD (gv 3) (gv 6)) (aCons (e2 mulD (gv 5) (gv 4)) aNil))))))
noncomputable def F_who_leads : FF := runF 7 (b_who_leads)
theorem ok_who_leads {P : Program} {w : World} {K : PySem.W.Frag} {mg : Str → Option Value} {base : Heap} (S : Fx K mg) (T : Tx K mg base tfs) : FOk P w K mg base 4 "who_leads" 3 F_who_leads := by
  have c_held_in := ok_held_in (P := P) (w := w) (base := base) S T
  have c_word_for := ok_word_for (P := P) (w := w) (base := base) S T
  have sc := sc_who_leads
  have hN := sc.nd
  refine (Fn1.ok (k := 3) S.f_who_leads sc rfl (fun cdv A outer s H E f hr tk hp => ?_) (fun _ _ _ _ _ _ us hl => match us, hl with | [_, _, _], _ => rfl))
  have hu := hr.units
  have hu5 := room65 hr
  exact (by unfold b_who_leads; exact (dss_cons (ds_asg (dg_t rfl (dgs_cons (dg_n 3 hN) (dgs_cons (dg_n 4 hN) dgs_nil))) (de_callF c_held_in tk (hr.mono (by omega)) (da_cons (de_v 0) (da_cons (de_v 2) da_nil))))
    (dss_cons (ds_asg (dg_t rfl (dgs_cons (dg_n 5 hN) (dgs_cons (dg_n 6 hN) dgs_nil))) (de_callF c_held_in tk (hr.mono (by omega)) (da_cons (de_v 1) (da_cons (de_v 2) da_nil))))
    (dss_one (ds_ret (de_callF c_word_for tk (hr.mono (by omega)) (da_cons (de_op opD_mul (de_v 3) (de_v 6)) (da_cons (de_op opD_mul (de_v 5) (de_v 4)) da_nil))))))))
/-! ### terms_of -/
theorem sc_terms_of : FnScope ["plan", "start", "deposit", "many", "of"] ["plan"] (defScope (top 22)) := ⟨rfl, rfl, rfl, by decide +kernel, rfl, by decide +kernel, by decide +kernel⟩
@[irreducible] noncomputable def b_terms_of : FS := (sSeq (sAsg (gv 0) (bT [(bN 1), (bN 2), (bN 3), (bN 4)]))
    (sSeq (sIf (tst (e2 eqD (gv 3) (cst (.int 0)))) (sRet (mkT (aCons (mkT (aCons (cst (.int 0)) (aCons (cst (.int 1)) aNil))) (aCons (mkT (aCons (gv 2) (aCons (cst (.int 1)) aNil))) (aCons (mkT (aCons (gv 1) (aCons (cst (.int 1)) aNil))) aNil))))) sNil)
    (sRet (mkT (aCons (mkT (aCons (e2 addD (e2 mulD (gv 1) (gv 3)) (e2 mulD (gv 2) (gv 4))) (aCons (gv 3) aNil))) (aCons (mkT (aCons (cst (.int 0)) (aCons (cst (.int 1)) aNil))) (aCons (mkT (aCons (e2 mulD (e1 negD (gv 2)) (gv 4)) (aCons (gv 3) aNil))) aNil)))))))
noncomputable def F_terms_of : FF := runF 5 (b_terms_of)
theorem ok_terms_of {P : Program} {w : World} {K : PySem.W.Frag} {mg : Str → Option Value} {base : Heap} (S : Fx K mg) (T : Tx K mg base tfs) : FOk P w K mg base 1 "terms_of" 1 F_terms_of := by
  have sc := sc_terms_of
  have hN := sc.nd
  refine (Fn1.ok (k := 0) S.f_terms_of sc rfl (fun cdv A outer s H E f hr tk hp => ?_) (fun _ _ _ _ _ _ us hl => match us, hl with | [_], _ => rfl))
  have hu := hr.units
  have hu5 := room65 hr
  exact (by unfold b_terms_of; exact (dss_cons (ds_asg (dg_t rfl (dgs_cons (dg_n 1 hN) (dgs_cons (dg_n 2 hN) (dgs_cons (dg_n 3 hN) (dgs_cons (dg_n 4 hN) dgs_nil))))) (de_v 0))
    (dss_cons (ds_if (dt_cmp (opD_eq hu) (de_v 3) de_int) (dss_one (ds_ret (de_tup (da_cons (de_tup (da_cons de_int (da_cons de_int da_nil))) (da_cons (de_tup (da_cons (de_v 2) (da_cons de_int da_nil))) (da_cons (de_tup (da_cons (de_v 1) (da_cons de_int da_nil))) da_nil)))))) dss_nil)
    (dss_one (ds_ret (de_tup (da_cons (de_tup (da_cons (de_op opD_add (de_op opD_mul (de_v 1) (de_v 3)) (de_op opD_mul (de_v 2) (de_v 4))) (da_cons (de_v 3) da_nil))) (da_cons (de_tup (da_cons de_int (da_cons de_int da_nil))) (da_cons (de_tup (da_cons (de_op opD_mul (de_un unD_neg (de_v 2)) (de_v 4)) (da_cons (de_v 3) da_nil))) da_nil)))))))))
/-! ### compared -/
theorem sc_compared : FnScope ["one", "other"] ["one", "other"] (defScope (top 23)) := ⟨rfl, rfl, rfl, by decide +kernel, rfl, by decide +kernel, by decide +kernel⟩
@[irreducible] noncomputable def b_compared : FS := (sRet (eCall 2 F_word_for (aCons (e2 mulD (e2 ixD (gv 0) (cst (.int 0))) (e2 ixD (gv 1) (cst (.int 1)))) (aCons (e2 mulD (e2 ixD (gv 1) (cst (.int 0))) (e2 ixD (gv 0) (cst (.int 1)))) aNil))))
noncomputable def F_compared : FF := runF 2 (b_compared)
theorem ok_compared {P : Program} {w : World} {K : PySem.W.Frag} {mg : Str → Option Value} {base : Heap} (S : Fx K mg) (T : Tx K mg base tfs) : FOk P w K mg base 2 "compared" 2 F_compared := by
  have c_word_for := ok_word_for (P := P) (w := w) (base := base) S T
  have sc := sc_compared
  have hN := sc.nd
  refine (Fn1.ok (k := 1) S.f_compared sc rfl (fun cdv A outer s H E f hr tk hp => ?_) (fun _ _ _ _ _ _ us hl => match us, hl with | [_, _], _ => rfl))
  have hu := hr.units
  have hu5 := room65 hr
  exact (by unfold b_compared; exact (dss_one (ds_ret (de_callF c_word_for tk (hr.mono (by omega)) (da_cons (de_op opD_mul (de_ix ixD_seq (de_v 0) de_int) (de_ix ixD_seq (de_v 1) de_int)) (da_cons (de_op opD_mul (de_ix ixD_seq (de_v 1) de_int) (de_ix ixD_seq (de_v 0) de_int)) da_nil))))))
/-! ### rest_word -/
theorem sc_rest_word : FnScope ["one", "other", "empty", "plan"] ["one", "other"] (defScope (top 25)) := ⟨rfl, rfl, rfl, by decide +kernel, rfl, by decide +kernel, by decide +kernel⟩
@[irreducible] noncomputable def b_rest_word : FS := (sSeq (sAsg (lc fuel [3] (iVal (mkT (aCons (gv 0) (aCons (gv 1) aNil)))) (bN 3) yes (e2 eqD (e2 addD (e2 ixD (gv 3) (cst (.int 0))) (e2 ixD (gv 3) (cst (.int 1)))) (cst (.int 0)))) (bN 2))
    (sSeq (sIf (andT (tru (e2 ixD (gv 2) (cst (.int 0)))) (tru (e2 ixD (gv 2) (cst (.int 1))))) (sRet (cst (.str "both"))) sNil)
    (sRet (ifE (tru (e2 ixD (gv 2) (cst (.int 0)))) (cst (.str "other")) (cst (.str "one"))))))
noncomputable def F_rest_word : FF := runF 4 (b_rest_word)
theorem ok_rest_word {P : Program} {w : World} {K : PySem.W.Frag} {mg : Str → Option Value} {base : Heap} (S : Fx K mg) (T : Tx K mg base tfs) : FOk P w K mg base 1 "rest_word" 2 F_rest_word := by
  have sc := sc_rest_word
  have hN := sc.nd
  refine (Fn1.ok (k := 0) S.f_rest_word sc rfl (fun cdv A outer s H E f hr tk hp => ?_) (fun _ _ _ _ _ _ us hl => match us, hl with | [_, _], _ => rfl))
  have hu := hr.units
  have hu5 := room65 hr
  exact (by unfold b_rest_word; exact (dss_cons (ds_setLc 2 rfl hN (sw_true sc.kind rfl rfl rfl) (di_val (de_tup (da_cons (de_v 0) (da_cons (de_v 1) da_nil)))) (blkOk_by (own := [("plan", 3)]) (by kernel_rfl)) (fun _ _ _ _ _ => (dg_n 3 hN)) (fun _ _ _ _ _ => dts_nil) (fun _ _ _ _ _ => (de_cmp (opD_eq hu) (de_op opD_add (de_ix ixD_seq (de_v 3) de_int) (de_ix ixD_seq (de_v 3) de_int)) de_int)))
    (dss_cons (ds_if (dt_w (dw_and (dt_tru (de_ix ixD_seq (de_v 2) de_int)) (dw_and1 (dt_tru (de_ix ixD_seq (de_v 2) de_int))))) (dss_one (ds_ret de_str)) dss_nil)
    (dss_one (ds_ret (de_if (dt_tru (de_ix ixD_seq (de_v 2) de_int)) de_str de_str))))))
/-! ### last_word -/
theorem sc_last_word : FnScope ["one", "other", "mine", "yours", "rate", "words", "at", "word"] ["one", "other"] (defScope (top 24)) := ⟨rfl, rfl, rfl, by decide +kernel, rfl, by decide +kernel, by decide +kernel⟩
@[irreducible] noncomputable def b_last_word : FS := (sSeq (sAsg (mkT (aCons (eCall 1 F_terms_of (aCons (gv 0) aNil)) (aCons (eCall 1 F_terms_of (aCons (gv 1) aNil)) aNil))) (bT [(bN 2), (bN 3)]))
    (sSeq (sAsg (eCall 2 F_word_for (aCons (e2 mulD (e2 ixD (gv 0) (cst (.int 2))) (e2 ixD (gv 1) (cst (.int 3)))) (aCons (e2 mulD (e2 ixD (gv 1) (cst (.int 2))) (e2 ixD (gv 0) (cst (.int 3)))) aNil))) (bN 4))
    (sSeq (sIf (andT (tst (e2 eqD (gv 4) (cst (.str "one")))) (tst (e2 gtI (e2 ixD (e2 ixD (gv 2) (cst (.int 0))) (cst (.int 0))) (cst (.int 0))))) (sRet (cst (.str "one"))) sNil)
    (sSeq (sIf (andT (tst (e2 eqD (gv 4) (cst (.str "other")))) (tst (e2 gtI (e2 ixD (e2 ixD (gv 3) (cst (.int 0))) (cst (.int 0))) (cst (.int 0))))) (sRet (cst (.str "other"))) sNil)
    (sSeq (sIf (tst (e2 eqD (gv 4) (cst (.str "both")))) (sSeq (sAsg (lc fuel [6] (iRng1 (aCons (cst (.int 3)) aNil)) (bN 6) yes (eCall 2 F_compared (aCons (e2 ixD (gv 2) (gv 6)) (aCons (e2 ixD (gv 3) (gv 6)) aNil)))) (bN 5))
    (sSeq (sAsg (lc fuel [7] (iVal (gv 5)) (bN 7) (tst (e2 neD (gv 7) (cst (.str "both")))) (gv 7)) (bN 5))
    (sRet (ifE (tst (e2 neD (gv 5) (mkL aNil))) (e2 ixD (gv 5) (cst (.int 0))) (cst (.str "both")))))) sNil)
    (sRet (eCall 2 F_rest_word (aCons (gv 0) (aCons (gv 1) aNil)))))))))
noncomputable def F_last_word : FF := runF 8 (b_last_word)
theorem ok_last_word {P : Program} {w : World} {K : PySem.W.Frag} {mg : Str → Option Value} {base : Heap} (S : Fx K mg) (T : Tx K mg base tfs) : FOk P w K mg base 3 "last_word" 2 F_last_word := by
  have c_compared := ok_compared (P := P) (w := w) (base := base) S T
  have c_rest_word := ok_rest_word (P := P) (w := w) (base := base) S T
  have c_terms_of := ok_terms_of (P := P) (w := w) (base := base) S T
  have c_word_for := ok_word_for (P := P) (w := w) (base := base) S T
  have sc := sc_last_word
  have hN := sc.nd
  refine (Fn1.ok (k := 2) S.f_last_word sc rfl (fun cdv A outer s H E f hr tk hp => ?_) (fun _ _ _ _ _ _ us hl => match us, hl with | [_, _], _ => rfl))
  have hu := hr.units
  have hu5 := room65 hr
  exact (by unfold b_last_word; exact (dss_cons (ds_asg (dg_t rfl (dgs_cons (dg_n 2 hN) (dgs_cons (dg_n 3 hN) dgs_nil))) (de_tup (da_cons (de_callF c_terms_of tk (hr.mono (by omega)) (da_cons (de_v 0) da_nil)) (da_cons (de_callF c_terms_of tk (hr.mono (by omega)) (da_cons (de_v 1) da_nil)) da_nil))))
    (dss_cons (ds_set 4 hN (de_callF c_word_for tk (hr.mono (by omega)) (da_cons (de_op opD_mul (de_ix ixD_seq (de_v 0) de_int) (de_ix ixD_seq (de_v 1) de_int)) (da_cons (de_op opD_mul (de_ix ixD_seq (de_v 1) de_int) (de_ix ixD_seq (de_v 0) de_int)) da_nil))))
    (dss_cons (ds_if (dt_w (dw_and (dt_cmp (opD_eq hu) (de_v 4) de_str) (dw_and1 (dt_cmp opD_gt (de_ix ixD_seq (de_ix ixD_seq (de_v 2) de_int) de_int) de_int)))) (dss_one (ds_ret de_str)) dss_nil)
    (dss_cons (ds_if (dt_w (dw_and (dt_cmp (opD_eq hu) (de_v 4) de_str) (dw_and1 (dt_cmp opD_gt (de_ix ixD_seq (de_ix ixD_seq (de_v 3) de_int) de_int) de_int)))) (dss_one (ds_ret de_str)) dss_nil)
    (dss_cons (ds_if (dt_cmp (opD_eq hu) (de_v 4) de_str) (dss_cons (ds_setLc 5 rfl hN (sw_true sc.kind rfl rfl rfl) (di_range1 S.b_range (da_cons de_int da_nil)) (blkOk_by (own := [("at", 6)]) (by kernel_rfl)) (fun _ _ _ _ _ => (dg_n 6 hN)) (fun _ _ _ _ _ => dts_nil) (fun _ _ _ _ _ => (de_callF c_compared tk0 (hr.mono (by omega)) (da_cons (de_ix ixD_seq (de_v 2) (de_v 6)) (da_cons (de_ix ixD_seq (de_v 3) (de_v 6)) da_nil)))))
    (dss_cons (ds_setLc 5 rfl hN (sw_true sc.kind rfl rfl rfl) (di_val (de_v 5)) (blkOk_by (own := [("word", 7)]) (by kernel_rfl)) (fun _ _ _ _ _ => (dg_n 7 hN)) (fun _ _ _ _ _ => (dts_one (dt_cmp (opD_ne hu) (de_v 7) de_str))) (fun _ _ _ _ _ => (de_v 7)))
    (dss_one (ds_ret (de_if (dt_cmp (opD_ne hu) (de_v 5) (de_lst da_nil)) (de_ix ixD_seq (de_v 5) de_int) de_str))))) dss_nil)
    (dss_one (ds_ret (de_callF c_rest_word tk (hr.mono (by omega)) (da_cons (de_v 0) (da_cons (de_v 1) da_nil)))))))))))
/-! ### balance -/
theorem sc_balance : FnScope ["plan", "periods", "top", "below"] ["plan", "periods"] (defScope (top 26)) := ⟨rfl, rfl, rfl, by decide +kernel, rfl, by decide +kernel, by decide +kernel⟩
@[irreducible] noncomputable def b_balance : FS := (sSeq (sExp (eCall 1 F_need_plan (aCons (gv 0) aNil)))
    (sSeq (sExp (eCall 3 F_need_number (aCons (gv 1) (aCons (cst (.int 0)) (aCons (cst (.int 300)) aNil)))))
    (sSeq (sAsg (eCall 2 F_held_in (aCons (gv 0) (aCons (gv 1) aNil))) (bT [(bN 2), (bN 3)]))
    (sRet (eCall 2 F_lowest (aCons (gv 2) (aCons (gv 3) aNil)))))))
noncomputable def F_balance : FF := runF 4 (b_balance)
theorem ok_balance {P : Program} {w : World} {K : PySem.W.Frag} {mg : Str → Option Value} {base : Heap} (S : Fx K mg) (T : Tx K mg base tfs) : FOk P w K mg base 5 "balance" 2 F_balance := by
  have c_held_in := ok_held_in (P := P) (w := w) (base := base) S T
  have c_lowest := ok_lowest (P := P) (w := w) (base := base) S T
  have c_need_number := ok_need_number (P := P) (w := w) (base := base) S T
  have c_need_plan := ok_need_plan (P := P) (w := w) (base := base) S T
  have sc := sc_balance
  have hN := sc.nd
  refine (Fn1.ok (k := 4) S.f_balance sc rfl (fun cdv A outer s H E f hr tk hp => ?_) (fun _ _ _ _ _ _ us hl => match us, hl with | [_, _], _ => rfl))
  have hu := hr.units
  have hu5 := room65 hr
  exact (by unfold b_balance; exact (dss_cons (ds_exp (de_callF c_need_plan tk (hr.mono (by omega)) (da_cons (de_v 0) da_nil)))
    (dss_cons (ds_exp (de_callF c_need_number tk (hr.mono (by omega)) (da_cons (de_v 1) (da_cons de_int (da_cons (de_gint S.i_PERIODS) da_nil)))))
    (dss_cons (ds_asg (dg_t rfl (dgs_cons (dg_n 2 hN) (dgs_cons (dg_n 3 hN) dgs_nil))) (de_callF c_held_in tk (hr.mono (by omega)) (da_cons (de_v 0) (da_cons (de_v 1) da_nil))))
    (dss_one (ds_ret (de_callF c_lowest tk (hr.mono (by omega)) (da_cons (de_v 2) (da_cons (de_v 3) da_nil)))))))))
/-! ### lead_changes -/
theorem sc_lead_changes : FnScope ["one", "other", "periods", "found", "period", "word"] ["one", "other", "periods"] (defScope (top 27)) := ⟨rfl, rfl, rfl, by decide +kernel, rfl, by decide +kernel, by decide +kernel⟩
@[irreducible] noncomputable def b_lead_changes_1 : FS := (sSeq (sAsg (eCall 3 F_who_leads (aCons (gv 0) (aCons (gv 1) (aCons (gv 4) aNil)))) (bN 5))
    (sIf (orT (tst (e2 eqD (gv 3) (mkL aNil))) (tst (e2 neD (e2 ixD (e2 ixD (gv 3) (e1 negD (cst (.int 1)))) (cst (.int 1))) (gv 5)))) (sExp (eMt "list" appD (gv 3) (aCons (mkT (aCons (gv 4) (aCons (gv 5) aNil))) aNil))) sNil))
@[irreducible] noncomputable def b_lead_changes : FS := (sSeq (sExp (eCall 1 F_need_plan (aCons (gv 0) aNil)))
    (sSeq (sExp (eCall 1 F_need_plan (aCons (gv 1) aNil)))
    (sSeq (sExp (eCall 3 F_need_number (aCons (gv 2) (aCons (cst (.int 0)) (aCons (cst (.int 300)) aNil)))))
    (sSeq (sAsg (mkO aNil) (bN 3))
    (sSeq (sFor fuel (iRng1 (aCons (e2 addD (gv 2) (cst (.int 1))) aNil)) (bN 4) b_lead_changes_1)
    (sRet (eL tupleD (aCons (gv 3) aNil))))))))
noncomputable def F_lead_changes : FF := trimF (runF 6 (b_lead_changes))
theorem ok_lead_changes {P : Program} {w : World} {K : PySem.W.Frag} {mg : Str → Option Value} {base : Heap} (S : Fx K mg) (T : Tx K mg base tfs) : FOk P w K mg base 5 "lead_changes" 3 F_lead_changes := by
  have c_need_number := ok_need_number (P := P) (w := w) (base := base) S T
  have c_need_plan := ok_need_plan (P := P) (w := w) (base := base) S T
  have c_who_leads := ok_who_leads (P := P) (w := w) (base := base) S T
  have sc := sc_lead_changes
  have hN := sc.nd
  refine (Fn1.ok (k := 4) S.f_lead_changes sc rfl (fun cdv A outer s H E f hr tk hp => ?_) (fun _ _ _ _ _ _ us hl => match us, hl with | [_, _, _], _ => rfl)).trim
  have hu := hr.units
  have hu5 := room65 hr
  exact (by unfold b_lead_changes b_lead_changes_1; exact (dss_cons (ds_exp (de_callF c_need_plan tk (hr.mono (by omega)) (da_cons (de_v 0) da_nil)))
    (dss_cons (ds_exp (de_callF c_need_plan tk (hr.mono (by omega)) (da_cons (de_v 1) da_nil)))
    (dss_cons (ds_exp (de_callF c_need_number tk (hr.mono (by omega)) (da_cons (de_v 2) (da_cons de_int (da_cons (de_gint S.i_PERIODS) da_nil)))))
    (dss_cons (ds_set 3 hN (de_lstO da_nil))
    (dss_cons (ds_for hp rfl (di_range1 S.b_range (da_cons (de_op opD_add (de_v 2) de_int) da_nil)) (dg_n 4 hN) (dss_cons (ds_set 5 hN (de_callF c_who_leads tk (hr.mono (by omega)) (da_cons (de_v 0) (da_cons (de_v 1) (da_cons (de_v 4) da_nil)))))
    (dss_one (ds_if (dt_w (dw_or (dt_cmp (opD_eq hu) (de_v 3) (de_lst da_nil)) (dw_or1 (dt_cmp (opD_ne hu) (de_ix ixD_seq (de_ix ixD_seq (de_v 3) (de_un unD_neg de_int)) de_int) (de_v 5))))) (dss_one (ds_exp (de_mt PySem.F.plainAttrs_list PySem.F.slot_list_append PySem.F.type_list_append mtD_append (de_v 3) (da_cons (de_tup (da_cons (de_v 4) (da_cons (de_v 5) da_nil))) da_nil)))) dss_nil))))
    (dss_one (ds_ret (de_callTy callD_tuple S.b_tuple rfl (da_cons (de_v 3) da_nil))))))))))
/-! ### final_leader -/
theorem sc_final_leader : FnScope ["one", "other"] ["one", "other"] (defScope (top 28)) := ⟨rfl, rfl, rfl, by decide +kernel, rfl, by decide +kernel, by decide +kernel⟩
@[irreducible] noncomputable def b_final_leader : FS := (sSeq (sExp (eCall 1 F_need_plan (aCons (gv 0) aNil)))
    (sSeq (sExp (eCall 1 F_need_plan (aCons (gv 1) aNil)))
    (sRet (eCall 2 F_last_word (aCons (gv 0) (aCons (gv 1) aNil))))))
noncomputable def F_final_leader : FF := runF 2 (b_final_leader)
theorem ok_final_leader {P : Program} {w : World} {K : PySem.W.Frag} {mg : Str → Option Value} {base : Heap} (S : Fx K mg) (T : Tx K mg base tfs) : FOk P w K mg base 5 "final_leader" 2 F_final_leader := by
  have c_last_word := ok_last_word (P := P) (w := w) (base := base) S T
  have c_need_plan := ok_need_plan (P := P) (w := w) (base := base) S T
  have sc := sc_final_leader
  have hN := sc.nd
  refine (Fn1.ok (k := 4) S.f_final_leader sc rfl (fun cdv A outer s H E f hr tk hp => ?_) (fun _ _ _ _ _ _ us hl => match us, hl with | [_, _], _ => rfl))
  have hu := hr.units
  have hu5 := room65 hr
  exact (by unfold b_final_leader; exact (dss_cons (ds_exp (de_callF c_need_plan tk (hr.mono (by omega)) (da_cons (de_v 0) da_nil)))
    (dss_cons (ds_exp (de_callF c_need_plan tk (hr.mono (by omega)) (da_cons (de_v 1) da_nil)))
    (dss_one (ds_ret (de_callF c_last_word tk (hr.mono (by omega)) (da_cons (de_v 0) (da_cons (de_v 1) da_nil))))))))
/-! ### _law_cup -/
theorem sc__law_cup : FnScope ["script", "cell"] ["script"] (defScope (top 30)) := ⟨rfl, rfl, rfl, by decide +kernel, rfl, by decide +kernel, by decide +kernel⟩
@[irreducible] noncomputable def b__law_cup : FS := (sSeq (sAsg (eL absD (aCons (e2 ixD (e2 addD (eL listD (aCons (gv 0) aNil)) (mkL (aCons (cst (.int 0)) aNil))) (cst (.int 0))) aNil)) (bN 1))
    (sRet (mkO (aCons (ifE (tst (e2 geI (gv 1) (e2 powD (cst (.int 10)) (cst (.int 18))))) (e2 fdivD (gv 1) (cst (.int 97))) (cst (.int 0))) (aCons (e2 addD (e2 modD (eL intD (aCons (e2 addD (e2 mulD (gv 1) (cst (.int 337))) (cst (.int 3923))) aNil)) (cst (.int 2077502087))) (cst (.int 211))) aNil)))))
noncomputable def F__law_cup : FF := runF 2 (b__law_cup)
theorem ok__law_cup {P : Program} {w : World} {K : PySem.W.Frag} {mg : Str → Option Value} {base : Heap} (S : Fx K mg) (T : Tx K mg base tfs) : FOk P w K mg base 1 "_law_cup" 1 F__law_cup := by
  have sc := sc__law_cup
  have hN := sc.nd
  refine (Fn1.ok (k := 0) S.f__law_cup sc rfl (fun cdv A outer s H E f hr tk hp => ?_) (fun _ _ _ _ _ _ us hl => match us, hl with | [_], _ => rfl))
  have hu := hr.units
  have hu5 := room65 hr
  exact (by unfold b__law_cup; exact (dss_cons (ds_set 1 hN (de_callB callD_abs S.b_abs rfl (da_cons (de_ix ixD_seq (de_op opD_add (de_callTy callD_list S.b_list rfl (da_cons (de_v 0) da_nil)) (de_lst (da_cons de_int da_nil))) de_int) da_nil)))
    (dss_one (ds_ret (de_lstO (da_cons (de_if (dt_cmp opD_ge (de_v 1) (de_op opD_pow de_int de_int)) (de_op opD_fdiv (de_v 1) de_int) de_int) (da_cons (de_op opD_add (de_op opD_mod (de_callTy callD_int S.b_int rfl (da_cons (de_op opD_add (de_op opD_mul (de_v 1) de_int) de_int) da_nil)) de_int) de_int) da_nil)))))))
/-! ### _law_roll -/
theorem sc__law_roll : FnScope ["cup", "many", "found", "deep"] ["cup", "many"] (defScope (top 31)) := ⟨rfl, rfl, rfl, by decide +kernel, rfl, by decide +kernel, by decide +kernel⟩
@[irreducible] noncomputable def b__law_roll : FS := (sSeq (sIf (tst (e2 gtI (e2 ixD (gv 0) (cst (.int 0))) (cst (.int 0)))) (sSeq (sAsg (e2 modD (eL intD (aCons (e2 ixD (gv 0) (cst (.int 0))) aNil)) (gv 1)) (bN 2))
    (sSeq (sSetIx setD (e2 fdivD (e2 ixD (gv 0) (cst (.int 0))) (gv 1)) (gv 0) (cst (.int 0)))
    (sRet (gv 2)))) sNil)
    (sSeq (sSetIx setD (e2 modD (eL intD (aCons (e2 addD (e2 mulD (e2 ixD (gv 0) (cst (.int 1))) (cst (.int 30727))) (cst (.int 7789))) aNil)) (cst (.int 2147482951))) (gv 0) (cst (.int 1)))
    (sSeq (sAsg (e2 modD (eL intD (aCons (e2 mulD (e2 ixD (gv 0) (cst (.int 1))) (e2 addD (e2 ixD (gv 0) (cst (.int 1))) (cst (.int 233)))) aNil)) (cst (.int 2147483059))) (bN 3))
    (sRet (e2 modD (eL intD (aCons (e2 fdivD (gv 3) (cst (.int 829))) aNil)) (gv 1))))))
noncomputable def F__law_roll : FF := runF 4 (b__law_roll)
theorem ok__law_roll {P : Program} {w : World} {K : PySem.W.Frag} {mg : Str → Option Value} {base : Heap} (S : Fx K mg) (T : Tx K mg base tfs) : FOk P w K mg base 1 "_law_roll" 2 F__law_roll := by
  have sc := sc__law_roll
  have hN := sc.nd
  refine (Fn1.ok (k := 0) S.f__law_roll sc rfl (fun cdv A outer s H E f hr tk hp => ?_) (fun _ _ _ _ _ _ us hl => match us, hl with | [_, _], _ => rfl))
  have hu := hr.units
  have hu5 := room65 hr
  exact (by unfold b__law_roll; exact (dss_cons (ds_if (dt_cmp opD_gt (de_ix ixD_seq (de_v 0) de_int) de_int) (dss_cons (ds_set 2 hN (de_op opD_mod (de_callTy callD_int S.b_int rfl (da_cons (de_ix ixD_seq (de_v 0) de_int) da_nil)) (de_v 1)))
    (dss_cons (ds_setIx (setD_ok hu) (de_op opD_fdiv (de_ix ixD_seq (de_v 0) de_int) (de_v 1)) (de_v 0) de_int)
    (dss_one (ds_ret (de_v 2))))) dss_nil)
    (dss_cons (ds_setIx (setD_ok hu) (de_op opD_mod (de_callTy callD_int S.b_int rfl (da_cons (de_op opD_add (de_op opD_mul (de_ix ixD_seq (de_v 0) de_int) de_int) de_int) da_nil)) de_int) (de_v 0) de_int)
    (dss_cons (ds_set 3 hN (de_op opD_mod (de_callTy callD_int S.b_int rfl (da_cons (de_op opD_mul (de_ix ixD_seq (de_v 0) de_int) (de_op opD_add (de_ix ixD_seq (de_v 0) de_int) de_int)) da_nil)) de_int))
    (dss_one (ds_ret (de_op opD_mod (de_callTy callD_int S.b_int rfl (da_cons (de_op opD_fdiv (de_v 3) de_int) da_nil)) (de_v 1))))))))
/-! ### _law_some -/
theorem sc__law_some : FnScope ["cup", "things"] ["cup", "things"] (defScope (top 32)) := ⟨rfl, rfl, rfl, by decide +kernel, rfl, by decide +kernel, by decide +kernel⟩
@[irreducible] noncomputable def b__law_some : FS := (sRet (e2 ixD (gv 1) (eCall 2 F__law_roll (aCons (gv 0) (aCons (eL lenD (aCons (gv 1) aNil)) aNil)))))
noncomputable def F__law_some : FF := runF 2 (b__law_some)
theorem ok__law_some {P : Program} {w : World} {K : PySem.W.Frag} {mg : Str → Option Value} {base : Heap} (S : Fx K mg) (T : Tx K mg base tfs) : FOk P w K mg base 2 "_law_some" 2 F__law_some := by
  have c__law_roll := ok__law_roll (P := P) (w := w) (base := base) S T
  have sc := sc__law_some
  have hN := sc.nd
  refine (Fn1.ok (k := 1) S.f__law_some sc rfl (fun cdv A outer s H E f hr tk hp => ?_) (fun _ _ _ _ _ _ us hl => match us, hl with | [_, _], _ => rfl))
  have hu := hr.units
  have hu5 := room65 hr
  exact (by unfold b__law_some; exact (dss_one (ds_ret (de_ix ixD_seq (de_v 1) (de_callF c__law_roll tk (hr.mono (by omega)) (da_cons (de_v 0) (da_cons (de_callB callD_len S.b_len rfl (da_cons (de_v 1) da_nil)) da_nil)))))))
/-! ### _law_same -/
theorem sc__law_same : FnScope ["told", "due", "at"] ["told", "due"] (defScope (top 33)) := ⟨rfl, rfl, rfl, by decide +kernel, rfl, by decide +kernel, by decide +kernel⟩
@[irreducible] noncomputable def b__law_same (F : FF) : FS := (sSeq (sIf (tru (eL isiD (aCons (gv 1) (aCons (cst (.ty "tuple")) aNil)))) (sSeq (sIf (orT (notT (tru (eL isiD (aCons (gv 0) (aCons (cst (.ty "tuple")) aNil))))) (tst (e2 neD (eL lenD (aCons (gv 0) aNil)) (eL lenD (aCons (gv 1) aNil))))) (sRet (cst (.bl false))) sNil)
    (sRet (eL allD (aCons (lc fuel [2] (iRng1 (aCons (eL lenD (aCons (gv 1) aNil)) aNil)) (bN 2) yes (eCall 2 F (aCons (e2 ixD (gv 0) (gv 2)) (aCons (e2 ixD (gv 1) (gv 2)) aNil)))) aNil)))) sNil)
    (sSeq (sIf (tst (e2 isD (gv 1) (cst .non))) (sRet (e2 isD (gv 0) (cst .non))) sNil)
    (sSeq (sIf (tru (eL isiD (aCons (gv 1) (aCons (cst (.ty "bool")) aNil)))) (sRet (ifE (tru (gv 1)) (e2 isD (gv 0) (cst (.bl true))) (e2 isD (gv 0) (cst (.bl false))))) sNil)
    (sSeq (sIf (tru (eL isiD (aCons (gv 1) (aCons (cst (.ty "int")) aNil)))) (sRet (andE (eL isiD (aCons (gv 0) (aCons (cst (.ty "int")) aNil))) (andE (notE (eL isiD (aCons (gv 0) (aCons (cst (.ty "bool")) aNil)))) (e2 eqD (eL intD (aCons (gv 0) aNil)) (gv 1))))) sNil)
    (sRet (andE (eL isiD (aCons (gv 0) (aCons (cst (.ty "str")) aNil))) (e2 eqD (eL strD (aCons (gv 0) aNil)) (gv 1))))))))
noncomputable def F__law_same : Nat → FF
  | 0 => noF
  | m + 1 => let F := F__law_same m; runF 3 (b__law_same F)
theorem ok__law_same {P : Program} {w : World} {K : PySem.W.Frag} {mg : Str → Option Value} {base : Heap} (S : Fx K mg) (T : Tx K mg base tfs) : ∀ m : Nat, FOk P w K mg base (0 + m) "_law_same" 2 (F__law_same m)
  | 0 => ⟨S.f__law_same.g, let ⟨_, F⟩ := S.f__law_same.f; F.kp, let ⟨_, F⟩ := S.f__law_same.f; ⟨_, ["told", "due"], fn_no, F.bindsN fun _ _ _ _ _ _ us hl => match us, hl with | [_, _], _ => rfl⟩⟩
  | m + 1 => by
    have ih := ok__law_same (P := P) (w := w) (base := base) S T m
    have sc := sc__law_same
    have hN := sc.nd
    refine (Fn1.ok (k := 0 + m) S.f__law_same sc rfl (fun cdv A outer s H E f hr tk hp => ?_) (fun _ _ _ _ _ _ us hl => match us, hl with | [_, _], _ => rfl))
    have hu := hr.units
    have hu5 := room65 hr
    exact (by unfold b__law_same; exact (dss_cons (ds_if (dt_tru (de_callB callD_isi S.b_isinstance rfl (da_cons (de_v 1) (da_cons (de_ty S.b_tuple rfl) da_nil)))) (dss_cons (ds_if (dt_w (dw_or (dt_not (dt_tru (de_callB callD_isi S.b_isinstance rfl (da_cons (de_v 0) (da_cons (de_ty S.b_tuple rfl) da_nil))))) (dw_or1 (dt_cmp (opD_ne hu) (de_callB callD_len S.b_len rfl (da_cons (de_v 0) da_nil)) (de_callB callD_len S.b_len rfl (da_cons (de_v 1) da_nil)))))) (dss_one (ds_ret de_bl)) dss_nil)
    (dss_one (ds_ret (de_callB (callD_all rfl) S.b_all rfl (da_cons (de_lc rfl hN (di_range1 S.b_range (da_cons (de_callB callD_len S.b_len rfl (da_cons (de_v 1) da_nil)) da_nil)) (blkOk_by (own := [("at", 2)]) (by kernel_rfl)) (fun _ _ _ _ _ => (dg_n 2 hN)) (fun _ _ _ _ _ => dts_nil) (fun _ _ _ _ _ => (de_callF ih tk0 (hr.mono (by omega)) (da_cons (de_ix ixD_seq (de_v 0) (de_v 2)) (da_cons (de_ix ixD_seq (de_v 1) (de_v 2)) da_nil))))) da_nil))))) dss_nil)
    (dss_cons (ds_if (dt_cmp opD_is (de_v 1) de_non) (dss_one (ds_ret (de_cmp opD_is (de_v 0) de_non))) dss_nil)
    (dss_cons (ds_if (dt_tru (de_callB callD_isi S.b_isinstance rfl (da_cons (de_v 1) (da_cons (de_ty S.b_bool rfl) da_nil)))) (dss_one (ds_ret (de_if (dt_tru (de_v 1)) (de_cmp opD_is (de_v 0) de_bl) (de_cmp opD_is (de_v 0) de_bl)))) dss_nil)
    (dss_cons (ds_if (dt_tru (de_callB callD_isi S.b_isinstance rfl (da_cons (de_v 1) (da_cons (de_ty S.b_int rfl) da_nil)))) (dss_one (ds_ret (de_and (de_callB callD_isi S.b_isinstance rfl (da_cons (de_v 0) (da_cons (de_ty S.b_int rfl) da_nil))) (de_and (de_not (de_callB callD_isi S.b_isinstance rfl (da_cons (de_v 0) (da_cons (de_ty S.b_bool rfl) da_nil)))) (de_one (de_cmp (opD_eq hu) (de_callTy callD_int S.b_int rfl (da_cons (de_v 0) da_nil)) (de_v 1))))))) dss_nil)
    (dss_one (ds_ret (de_and (de_callB callD_isi S.b_isinstance rfl (da_cons (de_v 0) (da_cons (de_ty S.b_str rfl) da_nil))) (de_one (de_cmp (opD_eq hu) (de_callTy callD_str S.b_str rfl (da_cons (de_v 0) da_nil)) (de_v 1)))))))))))
/-! ### _law_plan -/
theorem sc__law_plan : FnScope ["cup", "far", "of", "below", "many"] ["cup", "far", "of"] (defScope (top 34)) := ⟨rfl, rfl, rfl, by decide +kernel, rfl, by decide +kernel, by decide +kernel⟩
@[irreducible] noncomputable def b__law_plan : FS := (sSeq (sAsg (e2 addD (cst (.int 1)) (eCall 2 F__law_roll (aCons (gv 0) (aCons (gv 2) aNil)))) (bN 3))
    (sSeq (sAsg (eCall 2 F__law_some (aCons (gv 0) (aCons (mkL (aCons (cst (.int 0)) (aCons (cst (.int 1)) (aCons (eCall 2 F__law_roll (aCons (gv 0) (aCons (e2 addD (gv 3) (cst (.int 1))) aNil))) aNil)))) aNil))) (bN 4))
    (sRet (mkT (aCons (eCall 2 F__law_some (aCons (gv 0) (aCons (mkL (aCons (cst (.int 0)) (aCons (eCall 2 F__law_roll (aCons (gv 0) (aCons (e2 addD (gv 1) (cst (.int 1))) aNil))) aNil))) aNil))) (aCons (eCall 2 F__law_some (aCons (gv 0) (aCons (mkL (aCons (cst (.int 0)) (aCons (eCall 2 F__law_roll (aCons (gv 0) (aCons (e2 addD (gv 1) (cst (.int 1))) aNil))) aNil))) aNil))) (aCons (eL min2D (aCons (gv 4) (aCons (gv 3) aNil))) (aCons (gv 3) aNil))))))))
noncomputable def F__law_plan : FF := runF 5 (b__law_plan)
theorem ok__law_plan {P : Program} {w : World} {K : PySem.W.Frag} {mg : Str → Option Value} {base : Heap} (S : Fx K mg) (T : Tx K mg base tfs) : FOk P w K mg base 3 "_law_plan" 3 F__law_plan := by
  have c__law_roll := ok__law_roll (P := P) (w := w) (base := base) S T
  have c__law_some := ok__law_some (P := P) (w := w) (base := base) S T
  have sc := sc__law_plan
  have hN := sc.nd
  refine (Fn1.ok (k := 2) S.f__law_plan sc rfl (fun cdv A outer s H E f hr tk hp => ?_) (fun _ _ _ _ _ _ us hl => match us, hl with | [_, _, _], _ => rfl))
  have hu := hr.units
  have hu5 := room65 hr
  exact (by unfold b__law_plan; exact (dss_cons (ds_set 3 hN (de_op opD_add de_int (de_callF c__law_roll tk (hr.mono (by omega)) (da_cons (de_v 0) (da_cons (de_v 2) da_nil)))))
    (dss_cons (ds_set 4 hN (de_callF c__law_some tk (hr.mono (by omega)) (da_cons (de_v 0) (da_cons (de_lst (da_cons de_int (da_cons de_int (da_cons (de_callF c__law_roll tk (hr.mono (by omega)) (da_cons (de_v 0) (da_cons (de_op opD_add (de_v 3) de_int) da_nil))) da_nil)))) da_nil))))
    (dss_one (ds_ret (de_tup (da_cons (de_callF c__law_some tk (hr.mono (by omega)) (da_cons (de_v 0) (da_cons (de_lst (da_cons de_int (da_cons (de_callF c__law_roll tk (hr.mono (by omega)) (da_cons (de_v 0) (da_cons (de_op opD_add (de_v 1) de_int) da_nil))) da_nil))) da_nil))) (da_cons (de_callF c__law_some tk (hr.mono (by omega)) (da_cons (de_v 0) (da_cons (de_lst (da_cons de_int (da_cons (de_callF c__law_roll tk (hr.mono (by omega)) (da_cons (de_v 0) (da_cons (de_op opD_add (de_v 1) de_int) da_nil))) da_nil))) da_nil))) (da_cons (de_callB (callD_min2 rfl) S.b_min rfl (da_cons (de_v 4) (da_cons (de_v 3) da_nil))) (da_cons (de_v 3) da_nil))))))))))
/-! ### _law_steps -/
theorem sc__law_steps : FnScope ["plan", "periods", "start", "deposit", "many", "of", "found", "turn", "top", "below"] ["plan", "periods"] (defScope (top 35)) := ⟨rfl, rfl, rfl, by decide +kernel, rfl, by decide +kernel, by decide +kernel⟩
@[irreducible] noncomputable def b__law_steps_1 : FS := (sSeq (sAsg (e2 ixD (gv 6) (e1 negD (cst (.int 1)))) (bT [(bN 8), (bN 9)]))
    (sExp (eMt "list" appD (gv 6) (aCons (mkT (aCons (e2 addD (e2 mulD (gv 8) (e2 addD (gv 5) (gv 4))) (e2 mulD (e2 mulD (gv 3) (gv 9)) (gv 5))) (aCons (e2 mulD (gv 9) (gv 5)) aNil))) aNil))))
@[irreducible] noncomputable def b__law_steps : FS := (sSeq (sAsg (gv 0) (bT [(bN 2), (bN 3), (bN 4), (bN 5)]))
    (sSeq (sAsg (mkO (aCons (mkT (aCons (gv 2) (aCons (cst (.int 1)) aNil))) aNil)) (bN 6))
    (sSeq (sFor fuel (iRng1 (aCons (gv 1) aNil)) (bN 7) b__law_steps_1)
    (sRet (gv 6)))))
noncomputable def F__law_steps : FF := trimF (runF 10 (b__law_steps))
theorem ok__law_steps {P : Program} {w : World} {K : PySem.W.Frag} {mg : Str → Option Value} {base : Heap} (S : Fx K mg) (T : Tx K mg base tfs) : FOk P w K mg base 1 "_law_steps" 2 F__law_steps := by
  have sc := sc__law_steps
  have hN := sc.nd
  refine (Fn1.ok (k := 0) S.f__law_steps sc rfl (fun cdv A outer s H E f hr tk hp => ?_) (fun _ _ _ _ _ _ us hl => match us, hl with | [_, _], _ => rfl)).trim
  have hu := hr.units
  have hu5 := room65 hr
  exact (by unfold b__law_steps b__law_steps_1; exact (dss_cons (ds_asg (dg_t rfl (dgs_cons (dg_n 2 hN) (dgs_cons (dg_n 3 hN) (dgs_cons (dg_n 4 hN) (dgs_cons (dg_n 5 hN) dgs_nil))))) (de_v 0))
    (dss_cons (ds_set 6 hN (de_lstO (da_cons (de_tup (da_cons (de_v 2) (da_cons de_int da_nil))) da_nil)))
    (dss_cons (ds_for hp rfl (di_range1 S.b_range (da_cons (de_v 1) da_nil)) (dg_n 7 hN) (dss_cons (ds_asg (dg_t rfl (dgs_cons (dg_n 8 hN) (dgs_cons (dg_n 9 hN) dgs_nil))) (de_ix ixD_seq (de_v 6) (de_un unD_neg de_int)))
    (dss_one (ds_exp (de_mt PySem.F.plainAttrs_list PySem.F.slot_list_append PySem.F.type_list_append mtD_append (de_v 6) (da_cons (de_tup (da_cons (de_op opD_add (de_op opD_mul (de_v 8) (de_op opD_add (de_v 5) (de_v 4))) (de_op opD_mul (de_op opD_mul (de_v 3) (de_v 9)) (de_v 5))) (da_cons (de_op opD_mul (de_v 9) (de_v 5)) da_nil))) da_nil))))))
    (dss_one (ds_ret (de_v 6)))))))
/-! ### _law_word_for -/
theorem sc__law_word_for : FnScope ["one", "other", "first", "second"] ["one", "other"] (defScope (top 36)) := ⟨rfl, rfl, rfl, by decide +kernel, rfl, by decide +kernel, by decide +kernel⟩
@[irreducible] noncomputable def b__law_word_for : FS := (sSeq (sPar 2 3 (e2 mulD (e2 ixD (gv 0) (cst (.int 0))) (e2 ixD (gv 1) (cst (.int 1)))) (e2 mulD (e2 ixD (gv 1) (cst (.int 0))) (e2 ixD (gv 0) (cst (.int 1)))))
    (sRet (ifE (tst (e2 eqD (gv 2) (gv 3))) (cst (.str "both")) (ifE (tst (e2 gtI (gv 2) (gv 3))) (cst (.str "one")) (cst (.str "other"))))))
noncomputable def F__law_word_for : FF := runF 4 (b__law_word_for)
theorem ok__law_word_for {P : Program} {w : World} {K : PySem.W.Frag} {mg : Str → Option Value} {base : Heap} (S : Fx K mg) (T : Tx K mg base tfs) : FOk P w K mg base 1 "_law_word_for" 2 F__law_word_for := by
  have sc := sc__law_word_for
  have hN := sc.nd
  refine (Fn1.ok (k := 0) S.f__law_word_for sc rfl (fun cdv A outer s H E f hr tk hp => ?_) (fun _ _ _ _ _ _ us hl => match us, hl with | [_, _], _ => rfl))
  have hu := hr.units
  have hu5 := room65 hr
  exact (by unfold b__law_word_for; exact (dss_cons (ds_par 2 3 rfl hN (de_op opD_mul (de_ix ixD_seq (de_v 0) de_int) (de_ix ixD_seq (de_v 1) de_int)) (de_op opD_mul (de_ix ixD_seq (de_v 1) de_int) (de_ix ixD_seq (de_v 0) de_int)))
    (dss_one (ds_ret (de_if (dt_cmp (opD_eq hu) (de_v 2) (de_v 3)) de_str (de_if (dt_cmp opD_gt (de_v 2) (de_v 3)) de_str de_str))))))
/-! ### _law_far -/
theorem sc__law_far : FnScope ["plan", "start", "deposit", "many", "of", "grown", "puts", "below", "turn"] ["plan"] (defScope (top 37)) := ⟨rfl, rfl, rfl, by decide +kernel, rfl, by decide +kernel, by decide +kernel⟩
@[irreducible] noncomputable def b__law_far_1 : FS := (sPar3 5 6 7 (e2 mulD (gv 5) (gv 5)) (e2 addD (e2 mulD (gv 6) (gv 5)) (e2 mulD (gv 6) (gv 7))) (e2 mulD (gv 7) (gv 7)))
@[irreducible] noncomputable def b__law_far : FS := (sSeq (sAsg (gv 0) (bT [(bN 1), (bN 2), (bN 3), (bN 4)]))
    (sSeq (sPar3 5 6 7 (e2 addD (gv 4) (gv 3)) (gv 4) (gv 4))
    (sSeq (sFor fuel (iRng1 (aCons (cst (.int 11)) aNil)) (bN 8) b__law_far_1)
    (sRet (mkT (aCons (e2 addD (e2 mulD (gv 1) (gv 5)) (e2 mulD (gv 2) (gv 6))) (aCons (gv 7) aNil)))))))
noncomputable def F__law_far : FF := runF 9 (b__law_far)
theorem ok__law_far {P : Program} {w : World} {K : PySem.W.Frag} {mg : Str → Option Value} {base : Heap} (S : Fx K mg) (T : Tx K mg base tfs) : FOk P w K mg base 1 "_law_far" 1 F__law_far := by
  have sc := sc__law_far
  have hN := sc.nd
  refine (Fn1.ok (k := 0) S.f__law_far sc rfl (fun cdv A outer s H E f hr tk hp => ?_) (fun _ _ _ _ _ _ us hl => match us, hl with | [_], _ => rfl))
  have hu := hr.units
  have hu5 := room65 hr
  exact (by unfold b__law_far b__law_far_1; exact (dss_cons (ds_asg (dg_t rfl (dgs_cons (dg_n 1 hN) (dgs_cons (dg_n 2 hN) (dgs_cons (dg_n 3 hN) (dgs_cons (dg_n 4 hN) dgs_nil))))) (de_v 0))
    (dss_cons (ds_par3 5 6 7 rfl hN (de_op opD_add (de_v 4) (de_v 3)) (de_v 4) (de_v 4))
    (dss_cons (ds_for hp rfl (di_range1 S.b_range (da_cons de_int da_nil)) (dg_n 8 hN) (dss_one (ds_par3 5 6 7 rfl hN (de_op opD_mul (de_v 5) (de_v 5)) (de_op opD_add (de_op opD_mul (de_v 6) (de_v 5)) (de_op opD_mul (de_v 6) (de_v 7))) (de_op opD_mul (de_v 7) (de_v 7)))))
    (dss_one (ds_ret (de_tup (da_cons (de_op opD_add (de_op opD_mul (de_v 1) (de_v 5)) (de_op opD_mul (de_v 2) (de_v 6))) (da_cons (de_v 7) da_nil)))))))))
/-! ### _law_pair -/
theorem sc__law_pair : FnScope ["cup", "one", "other", "way"] ["cup"] (defScope (top 38)) := ⟨rfl, rfl, rfl, by decide +kernel, rfl, by decide +kernel, by decide +kernel⟩
@[irreducible] noncomputable def b__law_pair : FS := (sSeq (sPar 1 2 (eCall 3 F__law_plan (aCons (gv 0) (aCons (cst (.int 60)) (aCons (cst (.int 10)) aNil)))) (eCall 3 F__law_plan (aCons (gv 0) (aCons (cst (.int 60)) (aCons (cst (.int 10)) aNil)))))
    (sSeq (sAsg (eCall 2 F__law_roll (aCons (gv 0) (aCons (cst (.int 5)) aNil))) (bN 3))
    (sSeq (sIf (tst (e2 eqD (gv 3) (cst (.int 0)))) (sAsg (e2 addD (eSl slD (gv 2) oNone (oSome (cst (.int 2)))) (eSl slD (gv 1) (oSome (cst (.int 2))) oNone)) (bN 2)) sNil)
    (sSeq (sIf (tst (e2 eqD (gv 3) (cst (.int 1)))) (sAsg (e2 addD (eSl slD (gv 1) oNone (oSome (cst (.int 2)))) (mkT (aCons (e2 mulD (cst (.int 2)) (e2 ixD (gv 1) (cst (.int 2)))) (aCons (e2 mulD (cst (.int 2)) (e2 ixD (gv 1) (cst (.int 3)))) aNil)))) (bN 2)) sNil)
    (sSeq (sIf (tst (e2 eqD (gv 3) (cst (.int 2)))) (sAsg (e2 addD (mkT (aCons (e2 ixD (gv 1) (cst (.int 0))) (aCons (e2 ixD (gv 2) (cst (.int 1))) aNil))) (eSl slD (gv 1) (oSome (cst (.int 2))) oNone)) (bN 2)) sNil)
    (sRet (mkT (aCons (gv 1) (aCons (gv 2) aNil)))))))))
noncomputable def F__law_pair : FF := runF 4 (b__law_pair)
theorem ok__law_pair {P : Program} {w : World} {K : PySem.W.Frag} {mg : Str → Option Value} {base : Heap} (S : Fx K mg) (T : Tx K mg base tfs) : FOk P w K mg base 4 "_law_pair" 1 F__law_pair := by
  have c__law_plan := ok__law_plan (P := P) (w := w) (base := base) S T
  have c__law_roll := ok__law_roll (P := P) (w := w) (base := base) S T
  have sc := sc__law_pair
  have hN := sc.nd
  refine (Fn1.ok (k := 3) S.f__law_pair sc rfl (fun cdv A outer s H E f hr tk hp => ?_) (fun _ _ _ _ _ _ us hl => match us, hl with | [_], _ => rfl))
  have hu := hr.units
  have hu5 := room65 hr
  exact (by unfold b__law_pair; exact (dss_cons (ds_par 1 2 rfl hN (de_callF c__law_plan tk (hr.mono (by omega)) (da_cons (de_v 0) (da_cons de_int (da_cons de_int da_nil)))) (de_callF c__law_plan tk (hr.mono (by omega)) (da_cons (de_v 0) (da_cons de_int (da_cons de_int da_nil)))))
    (dss_cons (ds_set 3 hN (de_callF c__law_roll tk (hr.mono (by omega)) (da_cons (de_v 0) (da_cons de_int da_nil))))
    (dss_cons (ds_if (dt_cmp (opD_eq hu) (de_v 3) de_int) (dss_one (ds_set 2 hN (de_op opD_add (de_slice slD_ok (de_v 2) do_none (do_some de_int)) (de_slice slD_ok (de_v 1) (do_some de_int) do_none)))) dss_nil)
    (dss_cons (ds_if (dt_cmp (opD_eq hu) (de_v 3) de_int) (dss_one (ds_set 2 hN (de_op opD_add (de_slice slD_ok (de_v 1) do_none (do_some de_int)) (de_tup (da_cons (de_op opD_mul de_int (de_ix ixD_seq (de_v 1) de_int)) (da_cons (de_op opD_mul de_int (de_ix ixD_seq (de_v 1) de_int)) da_nil)))))) dss_nil)
    (dss_cons (ds_if (dt_cmp (opD_eq hu) (de_v 3) de_int) (dss_one (ds_set 2 hN (de_op opD_add (de_tup (da_cons (de_ix ixD_seq (de_v 1) de_int) (da_cons (de_ix ixD_seq (de_v 2) de_int) da_nil))) (de_slice slD_ok (de_v 1) (do_some de_int) do_none)))) dss_nil)
    (dss_one (ds_ret (de_tup (da_cons (de_v 1) (da_cons (de_v 2) da_nil)))))))))))
/-! ### _law_changes -/
theorem sc__law_changes : FnScope ["one", "other", "periods", "found", "period", "first", "second", "word"] ["one", "other", "periods"] (defScope (top 39)) := ⟨rfl, rfl, rfl, by decide +kernel, rfl, by decide +kernel, by decide +kernel⟩
@[irreducible] noncomputable def b__law_changes_1 : FS := (sSeq (sAsg (eCall 2 F__law_word_for (aCons (gv 5) (aCons (gv 6) aNil))) (bN 7))
    (sIf (orT (tst (e2 eqD (gv 3) (mkL aNil))) (tst (e2 neD (e2 ixD (e2 ixD (gv 3) (e1 negD (cst (.int 1)))) (cst (.int 1))) (gv 7)))) (sExp (eMt "list" appD (gv 3) (aCons (mkT (aCons (gv 4) (aCons (gv 7) aNil))) aNil))) sNil))
@[irreducible] noncomputable def b__law_changes : FS := (sSeq (sAsg (mkO aNil) (bN 3))
    (sSeq (sFor fuel (iEZ (aCons (eCall 2 F__law_steps (aCons (gv 0) (aCons (gv 2) aNil))) (aCons (eCall 2 F__law_steps (aCons (gv 1) (aCons (gv 2) aNil))) aNil))) (bT [(bN 4), (bT [(bN 5), (bN 6)])]) b__law_changes_1)
    (sRet (eL tupleD (aCons (gv 3) aNil)))))
noncomputable def F__law_changes : FF := trimF (runF 8 (b__law_changes))
theorem ok__law_changes {P : Program} {w : World} {K : PySem.W.Frag} {mg : Str → Option Value} {base : Heap} (S : Fx K mg) (T : Tx K mg base tfs) : FOk P w K mg base 2 "_law_changes" 3 F__law_changes := by
  have c__law_steps := ok__law_steps (P := P) (w := w) (base := base) S T
  have c__law_word_for := ok__law_word_for (P := P) (w := w) (base := base) S T
  have sc := sc__law_changes
  have hN := sc.nd
  refine (Fn1.ok (k := 1) S.f__law_changes sc rfl (fun cdv A outer s H E f hr tk hp => ?_) (fun _ _ _ _ _ _ us hl => match us, hl with | [_, _, _], _ => rfl)).trim
  have hu := hr.units
  have hu5 := room65 hr
  exact (by unfold b__law_changes b__law_changes_1; exact (dss_cons (ds_set 3 hN (de_lstO da_nil))
    (dss_cons (ds_for hp rfl (di_ez S.b_enumerate S.b_zip (da_cons (de_callF c__law_steps tk (hr.mono (by omega)) (da_cons (de_v 0) (da_cons (de_v 2) da_nil))) (da_cons (de_callF c__law_steps tk (hr.mono (by omega)) (da_cons (de_v 1) (da_cons (de_v 2) da_nil))) da_nil))) (dg_t rfl (dgs_cons (dg_n 4 hN) (dgs_cons (dg_t rfl (dgs_cons (dg_n 5 hN) (dgs_cons (dg_n 6 hN) dgs_nil))) dgs_nil))) (dss_cons (ds_set 7 hN (de_callF c__law_word_for tk (hr.mono (by omega)) (da_cons (de_v 5) (da_cons (de_v 6) da_nil))))
    (dss_one (ds_if (dt_w (dw_or (dt_cmp (opD_eq hu) (de_v 3) (de_lst da_nil)) (dw_or1 (dt_cmp (opD_ne hu) (de_ix ixD_seq (de_ix ixD_seq (de_v 3) (de_un unD_neg de_int)) de_int) (de_v 7))))) (dss_one (ds_exp (de_mt PySem.F.plainAttrs_list PySem.F.slot_list_append PySem.F.type_list_append mtD_append (de_v 3) (da_cons (de_tup (da_cons (de_v 4) (da_cons (de_v 7) da_nil))) da_nil)))) dss_nil))))
    (dss_one (ds_ret (de_callTy callD_tuple S.b_tuple rfl (da_cons (de_v 3) da_nil)))))))
/-! ### _law_right -/
theorem sc__law_right : FnScope ["cup", "one", "other", "periods", "told", "due", "back", "period", "word", "words", "evens", "later", "last"] ["cup"] (defScope (top 40)) := ⟨rfl, rfl, rfl, by decide +kernel, rfl, by decide +kernel, by decide +kernel⟩
@[irreducible] noncomputable def b__law_right : FS := (sSeq (sAsg (eCall 1 F__law_pair (aCons (gv 0) aNil)) (bT [(bN 1), (bN 2)]))
    (sSeq (sAsg (eCall 2 F__law_roll (aCons (gv 0) (aCons (cst (.int 61)) aNil))) (bN 3))
    (sSeq (sPar 4 5 (eCall 3 F_lead_changes (aCons (gv 1) (aCons (gv 2) (aCons (gv 3) aNil)))) (eCall 3 F__law_changes (aCons (gv 1) (aCons (gv 2) (aCons (gv 3) aNil)))))
    (sSeq (sAsg (mkDP (pCons (cst (.str "one")) (cst (.str "other")) (pCons (cst (.str "other")) (cst (.str "one")) (pCons (cst (.str "both")) (cst (.str "both")) pNil)))) (bN 6))
    (sSeq (sIf (orT (notT (tru (eCall 2 (F__law_same 4) (aCons (gv 4) (aCons (gv 5) aNil))))) (notT (tru (eCall 2 (F__law_same 4) (aCons (eCall 3 F_lead_changes (aCons (gv 2) (aCons (gv 1) (aCons (gv 3) aNil)))) (aCons (eL tupleD (aCons (lc fuel [7, 8] (iVal (gv 5)) (bT [(bN 7), (bN 8)]) yes (mkT (aCons (gv 7) (aCons (e2 ixX (gv 6) (gv 8)) aNil)))) aNil)) aNil)))))) (sRet (cst (.bl false))) sNil)
    (sSeq (sAsg (lc fuel [7, 8] (iVal (gv 5)) (bT [(bN 7), (bN 8)]) (tst (e2 neD (gv 8) (cst (.str "both")))) (gv 8)) (bN 9))
    (sSeq (sAsg (lc fuel [7, 8] (iVal (gv 5)) (bT [(bN 7), (bN 8)]) (tst (e2 eqD (gv 8) (cst (.str "both")))) (gv 7)) (bN 10))
    (sSeq (sIf (orT (tst (e2 gtI (eL lenD (aCons (lc fuel [8, 11] (iZip (aCons (gv 9) (aCons (eSl slD (gv 9) (oSome (cst (.int 1))) oNone) aNil))) (bT [(bN 8), (bN 11)]) (tst (e2 neD (gv 8) (gv 11))) (cst (.int 1))) aNil)) (cst (.int 2)))) (andT (tst (e2 neD (gv 9) (mkL aNil))) (tst (e2 gtI (eL lenD (aCons (gv 10) aNil)) (cst (.int 2)))))) (sRet (cst (.bl false))) sNil)
    (sSeq (sAsg (eCall 2 F__law_word_for (aCons (eCall 1 F__law_far (aCons (gv 1) aNil)) (aCons (eCall 1 F__law_far (aCons (gv 2) aNil)) aNil))) (bN 12))
    (sRet (eCall 2 (F__law_same 4) (aCons (mkT (aCons (eCall 2 F_final_leader (aCons (gv 1) (aCons (gv 2) aNil))) (aCons (eCall 2 F_final_leader (aCons (gv 2) (aCons (gv 1) aNil))) aNil))) (aCons (mkT (aCons (gv 12) (aCons (e2 ixX (gv 6) (gv 12)) aNil))) aNil)))))))))))))
noncomputable def F__law_right : FF := runF 13 (b__law_right)
theorem ok__law_right {P : Program} {w : World} {K : PySem.W.Frag} {mg : Str → Option Value} {base : Heap} (S : Fx K mg) (T : Tx K mg base tfs) : FOk P w K mg base 6 "_law_right" 1 F__law_right := by
  have c__law_changes := ok__law_changes (P := P) (w := w) (base := base) S T
  have c__law_far := ok__law_far (P := P) (w := w) (base := base) S T
  have c__law_pair := ok__law_pair (P := P) (w := w) (base := base) S T
  have c__law_roll := ok__law_roll (P := P) (w := w) (base := base) S T
  have c__law_same := ok__law_same (P := P) (w := w) (base := base) S T 4
  have c__law_word_for := ok__law_word_for (P := P) (w := w) (base := base) S T
  have c_final_leader := ok_final_leader (P := P) (w := w) (base := base) S T
  have c_lead_changes := ok_lead_changes (P := P) (w := w) (base := base) S T
  have sc := sc__law_right
  have hN := sc.nd
  refine (Fn1.ok (k := 5) S.f__law_right sc rfl (fun cdv A outer s H E f hr tk hp => ?_) (fun _ _ _ _ _ _ us hl => match us, hl with | [_], _ => rfl))
  have hu := hr.units
  have hu5 := room65 hr
  exact (by unfold b__law_right; exact (dss_cons (ds_asg (dg_t rfl (dgs_cons (dg_n 1 hN) (dgs_cons (dg_n 2 hN) dgs_nil))) (de_callF c__law_pair tk (hr.mono (by omega)) (da_cons (de_v 0) da_nil)))
    (dss_cons (ds_set 3 hN (de_callF c__law_roll tk (hr.mono (by omega)) (da_cons (de_v 0) (da_cons de_int da_nil))))
    (dss_cons (ds_par 4 5 rfl hN (de_callF c_lead_changes tk (hr.mono (by omega)) (da_cons (de_v 1) (da_cons (de_v 2) (da_cons (de_v 3) da_nil)))) (de_callF c__law_changes tk (hr.mono (by omega)) (da_cons (de_v 1) (da_cons (de_v 2) (da_cons (de_v 3) da_nil)))))
    (dss_cons (ds_set 6 hN (de_disp (dp_cons de_str de_str (dp_cons de_str de_str (dp_cons de_str de_str dp_nil)))))
    (dss_cons (ds_if (dt_w (dw_or (dt_not (dt_tru (de_callF c__law_same tk (hr.mono (by omega)) (da_cons (de_v 4) (da_cons (de_v 5) da_nil))))) (dw_or1 (dt_not (dt_tru (de_callF c__law_same tk (hr.mono (by omega)) (da_cons (de_callF c_lead_changes tk (hr.mono (by omega)) (da_cons (de_v 2) (da_cons (de_v 1) (da_cons (de_v 3) da_nil)))) (da_cons (de_callTy callD_tuple S.b_tuple rfl (da_cons (de_lc rfl hN (di_val (de_v 5)) (blkOk_by (own := [("period", 7), ("word", 8)]) (by kernel_rfl)) (fun _ _ _ _ _ => (dg_t rfl (dgs_cons (dg_n 7 hN) (dgs_cons (dg_n 8 hN) dgs_nil)))) (fun _ _ _ _ _ => dts_nil) (fun _ _ _ _ _ => (de_tup (da_cons (de_v 7) (da_cons (de_ix (ixX_ok (Nat.lt_of_le_of_lt (Nat.add_le_add_left (by decide) _) hu5)) (de_v 6) (de_v 8)) da_nil))))) da_nil)) da_nil)))))))) (dss_one (ds_ret de_bl)) dss_nil)
    (dss_cons (ds_setLc 9 rfl hN (sw_true sc.kind rfl rfl rfl) (di_val (de_v 5)) (blkOk_by (own := [("period", 7), ("word", 8)]) (by kernel_rfl)) (fun _ _ _ _ _ => (dg_t rfl (dgs_cons (dg_n 7 hN) (dgs_cons (dg_n 8 hN) dgs_nil)))) (fun _ _ _ _ _ => (dts_one (dt_cmp (opD_ne hu) (de_v 8) de_str))) (fun _ _ _ _ _ => (de_v 8)))
    (dss_cons (ds_setLc 10 rfl hN (sw_true sc.kind rfl rfl rfl) (di_val (de_v 5)) (blkOk_by (own := [("period", 7), ("word", 8)]) (by kernel_rfl)) (fun _ _ _ _ _ => (dg_t rfl (dgs_cons (dg_n 7 hN) (dgs_cons (dg_n 8 hN) dgs_nil)))) (fun _ _ _ _ _ => (dts_one (dt_cmp (opD_eq hu) (de_v 8) de_str))) (fun _ _ _ _ _ => (de_v 7)))
    (dss_cons (ds_if (dt_w (dw_or (dt_cmp opD_gt (de_callB callD_len S.b_len rfl (da_cons (de_lc rfl hN (di_zip S.b_zip (da_cons (de_v 9) (da_cons (de_slice slD_ok (de_v 9) (do_some de_int) do_none) da_nil))) (blkOk_by (own := [("word", 8), ("later", 11)]) (by kernel_rfl)) (fun _ _ _ _ _ => (dg_t rfl (dgs_cons (dg_n 8 hN) (dgs_cons (dg_n 11 hN) dgs_nil)))) (fun _ _ _ _ _ => (dts_one (dt_cmp (opD_ne hu) (de_v 8) (de_v 11)))) (fun _ _ _ _ _ => de_int)) da_nil)) de_int) (dw_or1 (dt_w (dw_and (dt_cmp (opD_ne hu) (de_v 9) (de_lst da_nil)) (dw_and1 (dt_cmp opD_gt (de_callB callD_len S.b_len rfl (da_cons (de_v 10) da_nil)) de_int))))))) (dss_one (ds_ret de_bl)) dss_nil)
    (dss_cons (ds_set 12 hN (de_callF c__law_word_for tk (hr.mono (by omega)) (da_cons (de_callF c__law_far tk (hr.mono (by omega)) (da_cons (de_v 1) da_nil)) (da_cons (de_callF c__law_far tk (hr.mono (by omega)) (da_cons (de_v 2) da_nil)) da_nil))))
    (dss_one (ds_ret (de_callF c__law_same tk (hr.mono (by omega)) (da_cons (de_tup (da_cons (de_callF c_final_leader tk (hr.mono (by omega)) (da_cons (de_v 1) (da_cons (de_v 2) da_nil))) (da_cons (de_callF c_final_leader tk (hr.mono (by omega)) (da_cons (de_v 2) (da_cons (de_v 1) da_nil))) da_nil))) (da_cons (de_tup (da_cons (de_v 12) (da_cons (de_ix (ixX_ok (Nat.lt_of_le_of_lt (Nat.add_le_add_left (by decide) _) hu5)) (de_v 6) (de_v 12)) da_nil))) da_nil)))))))))))))))
/-! ### _law_met_right -/
theorem sc__law_met_right : FnScope ["cup", "period", "step", "more", "slow", "fast", "due", "twice", "plain", "grown", "rest", "nothing", "word"] ["cup"] (defScope (top 41)) := ⟨rfl, rfl, rfl, by decide +kernel, rfl, by decide +kernel, by decide +kernel⟩
@[irreducible] noncomputable def b__law_met_right : FS := (sSeq (sPar3 1 2 3 (e2 addD (cst (.int 1)) (eCall 2 F__law_roll (aCons (gv 0) (aCons (cst (.int 200)) aNil)))) (e2 addD (cst (.int 1)) (eCall 2 F__law_roll (aCons (gv 0) (aCons (cst (.int 50)) aNil)))) (e2 addD (cst (.int 1)) (eCall 2 F__law_roll (aCons (gv 0) (aCons (cst (.int 50)) aNil)))))
    (sSeq (sPar 4 5 (mkT (aCons (e2 mulD (gv 1) (gv 3)) (aCons (gv 2) (aCons (cst (.int 0)) (aCons (cst (.int 1)) aNil))))) (mkT (aCons (cst (.int 0)) (aCons (e2 addD (gv 2) (gv 3)) (aCons (cst (.int 0)) (aCons (cst (.int 1)) aNil))))))
    (sSeq (sAsg (e2 addD (mkT (aCons (mkT (aCons (cst (.int 0)) (aCons (cst (.str "one")) aNil))) (aCons (mkT (aCons (gv 1) (aCons (cst (.str "both")) aNil))) aNil))) (ifE (tst (e2 ltI (gv 1) (cst (.int 300)))) (mkT (aCons (mkT (aCons (e2 addD (gv 1) (cst (.int 1))) (aCons (cst (.str "other")) aNil))) aNil)) (mkT aNil))) (bN 6))
    (sSeq (sIf (notT (tru (eCall 2 (F__law_same 4) (aCons (mkT (aCons (eCall 3 F_lead_changes (aCons (gv 4) (aCons (gv 5) (aCons (cst (.int 300)) aNil)))) (aCons (eCall 2 F_final_leader (aCons (gv 4) (aCons (gv 5) aNil))) aNil))) (aCons (mkT (aCons (gv 6) (aCons (cst (.str "other")) aNil))) aNil))))) (sRet (cst (.bl false))) sNil)
    (sSeq (sAsg (mkT (aCons (mkT (aCons (cst (.int 0)) (aCons (cst (.str "other")) aNil))) (aCons (mkT (aCons (cst (.int 1)) (aCons (cst (.str "one")) aNil))) (aCons (mkT (aCons (cst (.int 3)) (aCons (cst (.str "other")) aNil))) aNil)))) (bN 7))
    (sSeq (sAsg (mkT (aCons (mkT (aCons (cst (.int 0)) (aCons (cst (.int 30)) (aCons (cst (.int 0)) (aCons (cst (.int 1)) aNil))))) (aCons (mkT (aCons (cst (.int 1)) (aCons (cst (.int 14)) (aCons (cst (.int 1)) (aCons (cst (.int 1)) aNil))))) aNil))) (bT [(bN 8), (bN 9)]))
    (sSeq (sIf (notT (tru (eCall 2 (F__law_same 4) (aCons (mkT (aCons (eCall 3 F_lead_changes (aCons (gv 8) (aCons (gv 9) (aCons (cst (.int 40)) aNil)))) (aCons (eCall 2 F_final_leader (aCons (gv 8) (aCons (gv 9) aNil))) aNil))) (aCons (mkT (aCons (gv 7) (aCons (cst (.str "other")) aNil))) aNil))))) (sRet (cst (.bl false))) sNil)
    (sSeq (sAsg (eCall 3 F__law_plan (aCons (gv 0) (aCons (cst (.int 1000000)) (aCons (cst (.int 10000)) aNil)))) (bN 10))
    (sSeq (sAsg (e2 addD (mkT (aCons (cst (.int 0)) (aCons (cst (.int 0)) aNil))) (eSl slD (eCall 3 F__law_plan (aCons (gv 0) (aCons (cst (.int 9)) (aCons (cst (.int 10000)) aNil)))) (oSome (cst (.int 2))) oNone)) (bN 11))
    (sSeq (sAsg (ifE (tst (e2 eqD (e2 addD (e2 ixD (gv 10) (cst (.int 0))) (e2 ixD (gv 10) (cst (.int 1)))) (cst (.int 0)))) (cst (.str "both")) (cst (.str "one"))) (bN 12))
    (sRet (eCall 2 (F__law_same 4) (aCons (mkT (aCons (eCall 2 F_final_leader (aCons (gv 10) (aCons (gv 11) aNil))) (aCons (eCall 2 F_final_leader (aCons (gv 10) (aCons (gv 10) aNil))) (aCons (eCall 3 F_lead_changes (aCons (gv 10) (aCons (gv 10) (aCons (cst (.int 300)) aNil)))) aNil)))) (aCons (mkT (aCons (gv 12) (aCons (cst (.str "both")) (aCons (mkT (aCons (mkT (aCons (cst (.int 0)) (aCons (cst (.str "both")) aNil))) aNil)) aNil)))) aNil))))))))))))))
noncomputable def F__law_met_right : FF := runF 13 (b__law_met_right)
theorem ok__law_met_right {P : Program} {w : World} {K : PySem.W.Frag} {mg : Str → Option Value} {base : Heap} (S : Fx K mg) (T : Tx K mg base tfs) : FOk P w K mg base 6 "_law_met_right" 1 F__law_met_right := by
  have c__law_plan := ok__law_plan (P := P) (w := w) (base := base) S T
  have c__law_roll := ok__law_roll (P := P) (w := w) (base := base) S T
  have c__law_same := ok__law_same (P := P) (w := w) (base := base) S T 4
  have c_final_leader := ok_final_leader (P := P) (w := w) (base := base) S T
  have c_lead_changes := ok_lead_changes (P := P) (w := w) (base := base) S T
  have sc := sc__law_met_right
  have hN := sc.nd
  refine (Fn1.ok (k := 5) S.f__law_met_right sc rfl (fun cdv A outer s H E f hr tk hp => ?_) (fun _ _ _ _ _ _ us hl => match us, hl with | [_], _ => rfl))
  have hu := hr.units
  have hu5 := room65 hr
  exact (by unfold b__law_met_right; exact (dss_cons (ds_par3 1 2 3 rfl hN (de_op opD_add de_int (de_callF c__law_roll tk (hr.mono (by omega)) (da_cons (de_v 0) (da_cons de_int da_nil)))) (de_op opD_add de_int (de_callF c__law_roll tk (hr.mono (by omega)) (da_cons (de_v 0) (da_cons de_int da_nil)))) (de_op opD_add de_int (de_callF c__law_roll tk (hr.mono (by omega)) (da_cons (de_v 0) (da_cons de_int da_nil)))))
    (dss_cons (ds_par 4 5 rfl hN (de_tup (da_cons (de_op opD_mul (de_v 1) (de_v 3)) (da_cons (de_v 2) (da_cons de_int (da_cons de_int da_nil))))) (de_tup (da_cons de_int (da_cons (de_op opD_add (de_v 2) (de_v 3)) (da_cons de_int (da_cons de_int da_nil))))))
    (dss_cons (ds_set 6 hN (de_op opD_add (de_tup (da_cons (de_tup (da_cons de_int (da_cons de_str da_nil))) (da_cons (de_tup (da_cons (de_v 1) (da_cons de_str da_nil))) da_nil))) (de_if (dt_cmp opD_lt (de_v 1) de_int) (de_tup (da_cons (de_tup (da_cons (de_op opD_add (de_v 1) de_int) (da_cons de_str da_nil))) da_nil)) (de_tup da_nil))))
    (dss_cons (ds_if (dt_not (dt_tru (de_callF c__law_same tk (hr.mono (by omega)) (da_cons (de_tup (da_cons (de_callF c_lead_changes tk (hr.mono (by omega)) (da_cons (de_v 4) (da_cons (de_v 5) (da_cons de_int da_nil)))) (da_cons (de_callF c_final_leader tk (hr.mono (by omega)) (da_cons (de_v 4) (da_cons (de_v 5) da_nil))) da_nil))) (da_cons (de_tup (da_cons (de_v 6) (da_cons de_str da_nil))) da_nil))))) (dss_one (ds_ret de_bl)) dss_nil)
    (dss_cons (ds_set 7 hN (de_tup (da_cons (de_tup (da_cons de_int (da_cons de_str da_nil))) (da_cons (de_tup (da_cons de_int (da_cons de_str da_nil))) (da_cons (de_tup (da_cons de_int (da_cons de_str da_nil))) da_nil)))))
    (dss_cons (ds_asg (dg_t rfl (dgs_cons (dg_n 8 hN) (dgs_cons (dg_n 9 hN) dgs_nil))) (de_tup (da_cons (de_tup (da_cons de_int (da_cons de_int (da_cons de_int (da_cons de_int da_nil))))) (da_cons (de_tup (da_cons de_int (da_cons de_int (da_cons de_int (da_cons de_int da_nil))))) da_nil))))
    (dss_cons (ds_if (dt_not (dt_tru (de_callF c__law_same tk (hr.mono (by omega)) (da_cons (de_tup (da_cons (de_callF c_lead_changes tk (hr.mono (by omega)) (da_cons (de_v 8) (da_cons (de_v 9) (da_cons de_int da_nil)))) (da_cons (de_callF c_final_leader tk (hr.mono (by omega)) (da_cons (de_v 8) (da_cons (de_v 9) da_nil))) da_nil))) (da_cons (de_tup (da_cons (de_v 7) (da_cons de_str da_nil))) da_nil))))) (dss_one (ds_ret de_bl)) dss_nil)
    (dss_cons (ds_set 10 hN (de_callF c__law_plan tk (hr.mono (by omega)) (da_cons (de_v 0) (da_cons de_int (da_cons de_int da_nil)))))
    (dss_cons (ds_set 11 hN (de_op opD_add (de_tup (da_cons de_int (da_cons de_int da_nil))) (de_slice slD_ok (de_callF c__law_plan tk (hr.mono (by omega)) (da_cons (de_v 0) (da_cons de_int (da_cons de_int da_nil)))) (do_some de_int) do_none)))
    (dss_cons (ds_set 12 hN (de_if (dt_cmp (opD_eq hu) (de_op opD_add (de_ix ixD_seq (de_v 10) de_int) (de_ix ixD_seq (de_v 10) de_int)) de_int) de_str de_str))
    (dss_one (ds_ret (de_callF c__law_same tk (hr.mono (by omega)) (da_cons (de_tup (da_cons (de_callF c_final_leader tk (hr.mono (by omega)) (da_cons (de_v 10) (da_cons (de_v 11) da_nil))) (da_cons (de_callF c_final_leader tk (hr.mono (by omega)) (da_cons (de_v 10) (da_cons (de_v 10) da_nil))) (da_cons (de_callF c_lead_changes tk (hr.mono (by omega)) (da_cons (de_v 10) (da_cons (de_v 10) (da_cons de_int da_nil)))) da_nil)))) (da_cons (de_tup (da_cons (de_v 12) (da_cons de_str (da_cons (de_tup (da_cons (de_tup (da_cons de_int (da_cons de_str da_nil))) da_nil)) da_nil)))) da_nil))))))))))))))))
/-! ### law -/
theorem sc_law : FnScope ["script", "cup", "turn"] ["script"] (defScope (top 42)) := ⟨rfl, rfl, rfl, by decide +kernel, rfl, by decide +kernel, by decide +kernel⟩
@[irreducible] noncomputable def b_law_1 : FS := (sIf (notT (tru (eCall 1 F__law_right (aCons (gv 1) aNil)))) (sRet (cst (.bl false))) sNil)
@[irreducible] noncomputable def b_law : FS := (sSeq (sAsg (eCall 1 F__law_cup (aCons (gv 0) aNil)) (bN 1))
    (sSeq (sFor fuel (iRng1 (aCons (cst (.int 5)) aNil)) (bN 2) b_law_1)
    (sRet (andE (eCall 1 F__law_met_right (aCons (gv 1) aNil)) (eCall 2 (F__law_same 4) (aCons (eCall 2 F_balance (aCons (mkT (aCons (cst (.int 0)) (aCons (cst (.int 30)) (aCons (cst (.int 0)) (aCons (cst (.int 1)) aNil))))) (aCons (cst (.int 3)) aNil))) (aCons (mkT (aCons (cst (.int 90)) (aCons (cst (.int 1)) aNil))) aNil)))))))
noncomputable def F_law : FF := runF 3 (b_law)
theorem law_fn {P : Program} {w : World} {K : PySem.W.Frag} {mg : Str → Option Value} {base : Heap} (S : Fx K mg) (T : Tx K mg base tfs) {fd : FuncData} (F : FunD K "law" "law" (defArgs (top 42)) (defBody (top 42)) (defScope (top 42)) [] [] (He.ga K "law") fd) : FnOk P w K mg base (L2N.CX P w) 7 (He.ga K "law") fd ["script"] (spD K 1 F_law) := by
  have c__law_cup := ok__law_cup (P := P) (w := w) (base := base) S T
  have c__law_met_right := ok__law_met_right (P := P) (w := w) (base := base) S T
  have c__law_right := ok__law_right (P := P) (w := w) (base := base) S T
  have c__law_same := ok__law_same (P := P) (w := w) (base := base) S T 4
  have c_balance := ok_balance (P := P) (w := w) (base := base) S T
  have sc := sc_law
  have hN := sc.nd
  refine fn_ok (k := 6) F sc rfl (fun cdv A outer s H E hr => ?_)
  have tk : L2N.Takes (cxOf (L2N.CX P w) P w K mg base ["script", "cup", "turn"] "law" (defScope (top 42)) (He.ga K "law") cdv A outer s H E) (fun c d _ H => E c d H) := L2N.takes_of rfl rfl rfl rfl
  have hp : PassesOwn (model P w) (A.deeper (envOfC "law" (defScope (top 42)) s.heap.objs.size (He.ga K "law") cdv)) (envOfC "law" (defScope (top 42)) s.heap.objs.size (He.ga K "law") cdv) (cxOf (L2N.CX P w) P w K mg base ["script", "cup", "turn"] "law" (defScope (top 42)) (He.ga K "law") cdv A outer s H E).xe := passes_of rfl
  have hu := hr.units
  have hu5 := room65 hr
  exact (by unfold b_law b_law_1; exact (dss_cons (ds_set 1 hN (de_callF c__law_cup tk (hr.mono (by omega)) (da_cons (de_v 0) da_nil)))
    (dss_cons (ds_for hp rfl (di_range1 S.b_range (da_cons de_int da_nil)) (dg_n 2 hN) (dss_one (ds_if (dt_not (dt_tru (de_callF c__law_right tk (hr.mono (by omega)) (da_cons (de_v 1) da_nil)))) (dss_one (ds_ret de_bl)) dss_nil)))
    (dss_one (ds_ret (de_and (de_callF c__law_met_right tk (hr.mono (by omega)) (da_cons (de_v 1) da_nil)) (de_one (de_callF c__law_same tk (hr.mono (by omega)) (da_cons (de_callF c_balance tk (hr.mono (by omega)) (da_cons (de_tup (da_cons de_int (da_cons de_int (da_cons de_int (da_cons de_int da_nil))))) (da_cons de_int da_nil))) (da_cons (de_tup (da_cons de_int (da_cons de_int da_nil))) da_nil))))))))))
end K92
namespace K92
open PySem PySem.Spec PyProof.Rows L2 Dn
theorem cup_ok : CupOk F__law_cup := by
  intro ns hl
  refine (fun (h : wpR (F__law_cup [.scr (ns.map D.int)] []) (fun d η => d = .obj 0 ∧ Cup 0 η) (fun _ _ => False)) => ?_) ?_
  · obtain ⟨a, η, e, rfl, c⟩ := ok_of_wpR h
    exact ⟨η, e, c⟩
  unfold F__law_cup b__law_cup
  rw [w_runF]
  have key : ∃ c : Int, atI (ns.map D.int ++ [.int 0]) 0 = some (.int c) := by
    cases ns with
    | nil => exact ⟨0, by simp⟩
    | cons n r => exact ⟨n, by simp⟩
  obtain ⟨c, hc⟩ := key
  have h64 : ns.length + 1 ≤ sizeLine := Nat.le_trans (Nat.succ_le_succ hl) (by decide)
  simp [hc, h64]
  generalize hA : (if c < 0 then -c else c) = A
  have h0 : 0 ≤ A := by rw [← hA]; split <;> omega
  have hm : (A * 337 + 3923) % 2077502087 + 211 ≥ 0 := by have := Int.emod_nonneg (A * 337 + 3923) (show (2077502087 : Int) ≠ 0 by decide); omega
  split
  · exact ⟨_, _, by omega, hm, rfl⟩
  · exact ⟨_, _, by omega, hm, rfl⟩
theorem roll_ok : RollOk F__law_roll := by
  intro k η m ⟨a, b, ha, hb, e⟩ h0 h1
  refine (fun (h : wpR (F__law_roll [.obj k, .int m] η) (fun d η' => ∃ r, d = .int r ∧ 0 ≤ r ∧ r < m ∧ Cup k η' ∧ Keep k η η') (fun _ _ => False)) => ?_) ?_
  · obtain ⟨d, η', e, r, rfl, h2, h3, c, kp⟩ := ok_of_wpR h
    exact ⟨r, η', e, h2, h3, c, kp⟩
  unfold F__law_roll b__law_roll
  rw [w_runF]
  have cu : Cup k η := ⟨a, b, ha, hb, e⟩
  have kl := cu.lt
  have hd : divOk m := ⟨h0, .inl h1⟩
  by_cases h : 0 < a
  · simp [ixD_obj e, setD_obj e, h, h0, hd, ixN, kl]
    exact ⟨Int.emod_nonneg _ (by omega), Int.emod_lt_of_pos _ h0, ⟨a / m, b, Int.ediv_nonneg ha (by omega), hb, by simp [kl]⟩, Keep.set⟩
  · have e2 : ∀ x : D, (η.set k (.lst [.int a, x]))[k]? = some (.lst [.int a, x]) := fun x => by simp [kl]
    have hb2 : 0 ≤ (b * 30727 + 7789) % 2147482951 := Int.emod_nonneg _ (by decide)
    have hb3 : (b * 30727 + 7789) % 2147482951 < 2147482951 := Int.emod_lt_of_pos _ (by decide)
    have hmul : mulOk ((b * 30727 + 7789) % 2147482951) ((b * 30727 + 7789) % 2147482951 + 233) := mulOk_l (by omega) (by omega)
    simp [ixD_obj e, setD_obj e, h, h0, hd, ixN, kl, ixD_obj (e2 _), hmul]
    exact ⟨Int.emod_nonneg _ (by omega), Int.emod_lt_of_pos _ h0, ⟨a, _, ha, hb2, by simp [kl]⟩, Keep.set⟩
theorem some_ok : SomeOk F__law_some := by
  intro k η xs c h0 h1
  refine (fun (h : wpR (F__law_some [.obj k, .lst xs] η) (fun x η' => ∃ i : Nat, xs[i]? = some x ∧ Cup k η' ∧ Keep k η η') (fun _ _ => False)) => ?_) ?_
  · obtain ⟨d, η', e, i, h2, c, kp⟩ := ok_of_wpR h
    exact ⟨i, d, η', e, h2, c, kp⟩
  unfold F__law_some b__law_some
  rw [w_runF]
  simp
  refine roll_ok.wp c (by omega) (by omega) fun r η' h2 h3 c2 kp => ?_
  have hr : r.toNat < xs.length := by omega
  simp [atI_pos h2 h3, List.getElem?_eq_getElem hr]
  exact ⟨⟨r.toNat, by simp [hr]⟩, c2, kp⟩
theorem same_ok : SameOk F__law_same := by
  intro n
  induction n with
  | zero =>
    intro d η h
    refine ok_of_wpR1 ?_
    unfold F__law_same b__law_same
    rw [w_runF]
    cases d with
    | non => simp
    | bl b => cases b <;> simp
    | int i => simp
    | str x =>
      have hx : PyData.canLay0 (.str x) = true := by simpa [D.sm] using h
      simp [strD, eqD_str hx]
    | _ => simp [D.sm] at h
  | succ n ih =>
    intro d η h
    refine ok_of_wpR1 ?_
    unfold F__law_same b__law_same
    rw [w_runF]
    cases d with
    | non => simp
    | bl b => cases b <;> simp
    | int i => simp
    | str x =>
      have hx : PyData.canLay0 (.str x) = true := by simpa [D.sm] using h
      simp [strD, eqD_str hx]
    | tup xs =>
      simp [D.sm] at h
      have hb : big62 (xs.length : Int) := ⟨by omega, by omega⟩
      simp [w_lc, hb, w_nx, cmpS]
      refine wpR_of (cmp_map (fun _ => .bl true) _ fun x hx => ?_) ?_
      · obtain ⟨i, hi, rfl⟩ := mem_rng.mp hx
        replace hi : i < xs.length := by simpa using hi
        refine ⟨_, rfl, rfl, ok_of_wpR1 ?_⟩
        have e : atI xs (i : Int) = some xs[i] := atI_nat hi
        simp [wipeD, e]
        exact wpR_of (ih _ η (h.1 _ (List.getElem_mem hi))) ⟨rfl, rfl⟩
      · rw [map_const, rng_length]
        simp [allD_lst, boolsOf_true]
        exact szle h.2
    | _ => simp [D.sm] at h
end K92
namespace K92
open PySem PySem.Spec PyProof.Rows L2 Dn
variable {η : Store}
theorem whole_ok {d : D} {a : Ty} (h : tyOf d η = some a) : F_is_whole [d] η = .ok (.bl (decide (a = .int))) η := by
  refine ok_of_wpR1 ?_
  unfold F_is_whole b_is_whole
  rw [w_runF]
  have e1 : ∀ {n : String} {b : Ty}, tyNm n = some b → isiD [d, .ty n] η = some (.bl (tyB a b), η) := fun e => isi_of h e
  simp [e1 tyNm_int, e1 tyNm_bool]
  cases a <;> simp
theorem fits_int {i lo hi : Int} : F_fits_whole [.int i, .int lo, .int hi] η = .ok (.bl (decide (lo ≤ i) && decide (i ≤ hi))) η := by
  refine ok_of_wpR1 ?_
  unfold F_fits_whole b_fits_whole
  rw [w_runF]
  simp
  refine wpR_of (whole_ok rfl) ?_
  by_cases h : lo ≤ i <;> simp [h]
theorem fits_yes {i lo hi : Int} (h : lo ≤ i) (h2 : i ≤ hi) : F_fits_whole [.int i, .int lo, .int hi] η = .ok (.bl true) η := by
  rw [fits_int]; simp [h, h2]
theorem tupof_tup {xs : List D} {lo hi : Int} : F_is_tuple_of [.tup xs, .int lo, .int hi] η = .ok (.bl (decide (lo ≤ xs.length) && decide ((xs.length : Int) ≤ hi))) η := by
  refine ok_of_wpR1 ?_
  unfold F_is_tuple_of b_is_tuple_of
  rw [w_runF]
  by_cases h : lo ≤ (xs.length : Int) <;> simp [h]
/-! ### greatest common divisors, powers -/
theorem gcd_ok {a b : Int} (ha : 0 ≤ a) (hb : 0 ≤ b) (hz : b < 2 ^ 30000) : F_common_divisor [.int a, .int b] η = .ok (.int (Nat.gcd a.toNat b.toNat)) η := by
  refine ok_of_wpR1 ?_
  unfold F_common_divisor b_common_divisor
  rw [w_runF]
  simp
  refine w_whl (fun m ρ η' => ∃ x y : Int, ρ = [some (.int x), some (.int y)] ∧ 0 ≤ x ∧ 0 ≤ y ∧ y.toNat ≤ m ∧ Nat.gcd x.toNat y.toNat = Nat.gcd a.toNat b.toNat ∧ η' = η) ?_ b.toNat fuel ⟨a, b, rfl, ha, hb, Nat.le_refl _, rfl, rfl⟩ (fuel_lt (n := 30000) (by
    have : ((b.toNat : Nat) : Int) < 2 ^ 30000 := by omega
    exact_mod_cast this) (by decide))
  rintro m ρ η2 ⟨x, y, rfl, hx, hy, hm, hg, rfl⟩
  simp
  by_cases h : 0 < y
  · rw [if_pos h]
    refine ⟨m - 1, by omega, ?_⟩
    unfold b_common_divisor_1
    simp [h]
    have h2 := Int.emod_lt_of_pos x h
    have h3 := Int.emod_nonneg x (show y ≠ 0 by omega)
    refine ⟨_, _, ⟨rfl, rfl⟩, hy, h3, by omega, ?_⟩
    rw [← hg]
    have e : (x % y).toNat = x.toNat % y.toNat := by
      have : ((x % y).toNat : Int) = ((x.toNat % y.toNat : Nat) : Int) := by
        rw [Int.toNat_of_nonneg h3, Int.natCast_emod, Int.toNat_of_nonneg hx, Int.toNat_of_nonneg hy]
      exact_mod_cast this
    rw [e, Nat.gcd_comm, ← Nat.gcd_rec, Nat.gcd_comm]
  · rw [if_neg h]
    have hy0 : y = 0 := by omega
    subst hy0
    simp at hg
    omega
theorem log_le {x k : Nat} (h : x < 2 ^ k) : x.log2 ≤ k := by
  by_cases h0 : x = 0
  · subst h0; simp
  · exact Nat.le_of_lt ((Nat.log2_lt h0).mpr h)
theorem mulW {x y : Int} {k : Nat} (hk : k ≤ 400000) (hx : x.natAbs < 2 ^ k) (hy : y.natAbs < 2 ^ k) : mulOk x y := .inr (by
  have h1 := log_le hx
  have h2 := log_le hy
  show x.natAbs.log2 + y.natAbs.log2 < 1000000
  omega)
theorem pow_size {B N : Nat} (hB : B ≤ 32768) (hN : N ≤ 1000) : B ^ N < 2 ^ 15001 := by
  refine Nat.lt_of_le_of_lt (Nat.pow_le_pow_left hB N) ?_
  have e : (32768 : Nat) = 2 ^ 15 := rfl
  rw [e, ← Nat.pow_mul]
  exact Nat.pow_lt_pow_right (by decide) (by omega)
def Ipow (B N : Nat) (η : Store) (m : Nat) (ρ : Dn.Env) (η' : Store) : Prop := ∃ F X Y : Nat, ρ = [some (.int X), some (.int Y), some (.int F)] ∧ 1 ≤ F ∧ 1 ≤ X ∧ Y ≤ m ∧ F * X ^ Y = B ^ N ∧ (Y = 0 ∨ ∃ e, X = B ^ e ∧ e * Y ≤ N) ∧ η' = η
theorem pow_ok {B N : Nat} (h0 : 1 ≤ B) (hB : B ≤ 32768) (hN : N ≤ 1000) : F_power_of [.int B, .int N] η = .ok (.int (B ^ N : Nat)) η := by
  refine ok_of_wpR1 ?_
  unfold F_power_of b_power_of
  rw [w_runF]
  simp
  refine w_whl (Ipow B N η) ?_ N fuel ⟨1, B, N, rfl, Nat.le_refl _, h0, Nat.le_refl _, by simp, .inr ⟨1, by simp, by omega⟩, rfl⟩ (fuel_lt (n := 10) (by omega) (by decide))
  rintro m ρ η2 ⟨F, X, Y, rfl, hF, hX, hm, hp, he, rfl⟩
  simp
  by_cases h : 0 < Y
  · rw [if_pos h]
    refine ⟨m - 1, by omega, ?_⟩
    obtain ⟨e, rfl, heY⟩ : ∃ e, X = B ^ e ∧ e * Y ≤ N := by
      rcases he with he | he
      · omega
      · exact he
    have heN : e ≤ N := Nat.le_trans (Nat.le_mul_of_pos_right e h) heY
    have sX : B ^ e < 2 ^ 15001 := pow_size hB (by omega)
    have hXY : 1 ≤ (B ^ e) ^ Y := Nat.one_le_pow _ _ hX
    have sF : F < 2 ^ 15001 := by
      refine Nat.lt_of_le_of_lt ?_ (pow_size hB hN)
      rw [← hp]
      exact Nat.le_mul_of_pos_right F hXY
    have m1 : mulOk (F : Int) ((B ^ e : Nat) : Int) := mulW (k := 15001) (by decide) (by simpa using sF) (by rw [Int.natAbs_natCast]; exact sX)
    have m2 : mulOk ((B ^ e : Nat) : Int) ((B ^ e : Nat) : Int) := mulW (k := 15001) (by decide) (by rw [Int.natAbs_natCast]; exact sX) (by rw [Int.natAbs_natCast]; exact sX)
    have eY : ((Y : Int) / 2) = ((Y / 2 : Nat) : Int) := by omega
    have next : Y / 2 = 0 ∨ ∃ e2, (B ^ e) * (B ^ e) = B ^ e2 ∧ e2 * (Y / 2) ≤ N := by
      refine .inr ⟨e + e, (Nat.pow_add B e e).symm, ?_⟩
      have : (e + e) * (Y / 2) = e * (2 * (Y / 2)) := by rw [← Nat.two_mul, Nat.mul_comm 2 e, Nat.mul_assoc]
      rw [this]
      exact Nat.le_trans (Nat.mul_le_mul_left e (by omega)) heY
    have sq : ∀ z : Nat, (B ^ e * B ^ e) ^ z = (B ^ e) ^ (2 * z) := fun z => by rw [← Nat.pow_two, ← Nat.pow_mul]
    have hX2 : 1 ≤ B ^ e * B ^ e := Nat.mul_pos hX hX
    unfold b_power_of_1
    simp only [w_par3, w_ifE, w_tst, w_e2, w_gv, w_cst, List.getElem?_cons_zero, List.getElem?_cons_succ, wpO_some, wpO_modD, eqD_int, isB_bl, wpO_mulD, wpO_fdivD]
    refine ⟨by decide, ?_⟩
    by_cases hodd : (Y : Int) % 2 = 1
    · rw [if_pos (by simpa using hodd)]
      refine ⟨m1, m2, divOk_lit (by decide) (by decide), F * B ^ e, B ^ e * B ^ e, Y / 2, ?_, Nat.mul_pos hF hX, hX2, by omega, ?_, next, rfl⟩
      · rw [eY]; simp
      · rw [sq, Nat.mul_assoc, ← hp]
        congr 1
        have : Y = 1 + 2 * (Y / 2) := by omega
        conv => rhs; rw [this]
        rw [Nat.pow_add]; simp
    · rw [if_neg (by simpa using hodd)]
      refine ⟨m2, divOk_lit (by decide) (by decide), F, B ^ e * B ^ e, Y / 2, ?_, hF, hX2, by omega, ?_, next, rfl⟩
      · rw [eY]; simp
      · rw [sq, ← hp]
        have : Y = 2 * (Y / 2) := by omega
        conv => rhs; rw [this]
  · rw [if_neg h]
    have hy0 : Y = 0 := by omega
    subst hy0
    simp at hp
    rw [hp]
    simp
end K92
namespace K92
open PySem PySem.Spec PyProof.Rows L2 Dn
variable {η : Store}
def Pl.D (p : Pl) : D := .tup [.int p.s, .int p.d, .int p.m, .int p.o]
theorem Qu_le (p : Pl) : ∀ n, Qu p n ≤ n * Gr p n
  | 0 => by simp [Qu]
  | n + 1 => by
    have ih := Qu_le p n
    show Qu p n * (p.o + p.m) + Bl p (n + 1) ≤ (n + 1) * (Gr p n * (p.o + p.m))
    have h1 : Qu p n * (p.o + p.m) ≤ n * Gr p n * (p.o + p.m) := Nat.mul_le_mul_right _ ih
    have h2 : Bl p (n + 1) ≤ Gr p (n + 1) := Nat.pow_le_pow_left (by omega) _
    rw [Nat.add_mul, Nat.one_mul, ← Nat.mul_assoc, ← Gr_succ]
    omega
theorem Bl_pos {p : Pl} (h : p.Ok) (n : Nat) : 1 ≤ Bl p n := Nat.one_le_pow _ _ h.o1
theorem Gr_pos {p : Pl} (h : p.Ok) (n : Nat) : 1 ≤ Gr p n := Nat.one_le_pow _ _ (by have := h.o1; omega)
theorem Bl_Qu {p : Pl} (h : p.Ok) (n : Nat) : Bl p (n + 1) ≤ Qu p (n + 1) := Nat.le_add_left _ _
theorem parts_ok {p : Pl} (h : p.Ok) {n : Nat} (hn : n ≤ 1000) : F_parts_in [p.D, .int n] η = .ok (.tup [.int (Gr p n), .int (Qu p n), .int (Bl p n)]) η := by
  refine ok_of_wpR1 ?_
  have h1 := h.o1
  have h2 := h.o2
  have h3 := h.m
  unfold F_parts_in b_parts_in
  rw [w_runF]
  have e1 : F_power_of [.int ((p.o : Int) + p.m), .int n] η = .ok (.int (Gr p n)) η := by
    have := pow_ok (η := η) (B := p.o + p.m) (N := n) (by omega) (by omega) hn
    rw [← Int.natCast_add]; exact this
  have e2 : F_power_of [.int p.o, .int n] η = .ok (.int (Bl p n)) η := pow_ok h1 (by omega) hn
  simp [Pl.D]
  have a2 : atI [D.int p.s, .int p.d, .int p.m, .int p.o] 3 = some (.int p.o) := rfl
  rw [a2]
  simp
  refine wpR_of e1 ?_
  refine wpR_of e2 ?_
  by_cases hm : p.m = 0
  · simp [hm]
    rw [Qu_zero p hm]
    exact ⟨mulOk_l (by omega) (by omega), by simp⟩
  · simp [hm]
    refine ⟨mulOk_r (by omega) (by omega), divOk_lit (by omega) (by omega), ?_⟩
    have q := Qu_mul p n
    have e : ((Gr p n : Int) - Bl p n) * p.o = (p.m : Int) * Qu p n := by
      have q' : (p.m : Int) * Qu p n + Bl p n * p.o = Gr p n * p.o := by exact_mod_cast q
      rw [Int.sub_mul]; omega
    rw [e, Int.mul_ediv_cancel_left _ (by omega)]
theorem held_ok {p : Pl} (h : p.Ok) {n : Nat} (hn : n ≤ 1000) : F_held_in [p.D, .int n] η = .ok (.tup [.int (To p n), .int (Bl p n)]) η := by
  refine ok_of_wpR1 ?_
  unfold F_held_in b_held_in
  rw [w_runF]
  have h1 := h.s
  have h2 := h.d
  simp
  refine wpR_of (parts_ok h hn) ?_
  simp [Pl.D]
  refine ⟨mulOk_l (by omega) (by omega), mulOk_l (by omega) (by omega), ?_⟩
  unfold To; simp
theorem fitsplan_ok {p : Pl} (h : p.Ok) : F_fits_plan [p.D] η = .ok (.bl true) η := by
  refine ok_of_wpR1 ?_
  unfold F_fits_plan b_fits_plan
  rw [w_runF]
  simp [w_lc, w_nx, cmpS, Pl.D]
  refine wpR_of tupof_tup ?_
  simp
  have ec : cutL [D.int p.s, .int p.d, .int p.m, .int p.o] none (some 2) = [D.int p.s, .int p.d] := rfl
  rw [ec]
  refine wpR_of (cmp_map (fun _ => .bl true) _ fun x hx => ⟨_, rfl, rfl, ok_of_wpR1 ?_⟩) ?_
  · simp at hx
    simp [wipeD]
    have h1 := h.s
    have h2 := h.d
    rcases hx with rfl | rfl
    · exact wpR_of (fits_yes (by omega) (by omega)) ⟨rfl, rfl⟩
    · exact wpR_of (fits_yes (by omega) (by omega)) ⟨rfl, rfl⟩
  · have a2 : atI [D.int p.s, .int p.d, .int p.m, .int p.o] 3 = some (.int p.o) := rfl
    have h1 := h.o1
    have h2 := h.o2
    have h3 := h.m
    simp [allD_lst, a2]
    refine wpR_of (fits_yes (by omega) (by omega)) ?_
    simp
    refine wpR_of (fits_yes (by omega) (by omega)) ?_
    simp
theorem needplan_ok {p : Pl} (h : p.Ok) : F_need_plan [p.D] η = .ok .non η := by
  refine ok_of_wpR1 ?_
  unfold F_need_plan b_need_plan
  rw [w_runF]
  simp
  refine wpR_of (fitsplan_ok h) ?_
  simp
theorem neednum_ok {i lo hi : Int} (h : lo ≤ i) (h2 : i ≤ hi) : F_need_number [.int i, .int lo, .int hi] η = .ok .non η := by
  refine ok_of_wpR1 ?_
  unfold F_need_number b_need_number
  rw [w_runF]
  simp
  refine wpR_of (fits_yes h h2) ?_
  simp
/-! ### lowest terms -/
theorem div_big {k : Nat} {x : Nat} (h0 : 0 < x) (h : x < 2 ^ 8999) : divOk (x : Int) := ⟨by omega, .inr (by
  rw [Int.natAbs_natCast]
  have := log_le h
  omega)⟩
theorem lt_pow {x : Nat} (h : x < 2 ^ 8999) : x < 2 ^ 30000 := Nat.lt_of_lt_of_le h (Nat.pow_le_pow_right (by decide) (by decide))
theorem lowest_ok {T B : Nat} (h0 : 0 < B) (h : B < 2 ^ 8999) : F_lowest [.int T, .int B] η = .ok (.tup [.int ((T / Nat.gcd T B : Nat) : Int), .int ((B / Nat.gcd T B : Nat) : Int)]) η := by
  refine ok_of_wpR1 ?_
  unfold F_lowest b_lowest
  rw [w_runF]
  have e : (if (T : Int) < 0 then -(T : Int) else (T : Int)) = T := if_neg (by omega)
  simp [e]
  have hb : (B : Int) < 2 ^ 30000 := by exact_mod_cast lt_pow h
  refine wpR_of (gcd_ok (a := T) (b := B) (by omega) (by omega) hb) ?_
  have hg : Nat.gcd T B ≤ B := Nat.gcd_le_right T h0
  have hg0 : 0 < Nat.gcd T B := Nat.gcd_pos_of_pos_right T h0
  have hd : divOk ((Nat.gcd T B : Nat) : Int) := div_big (k := 0) hg0 (Nat.lt_of_le_of_lt hg h)
  simp [hd]
theorem Bl_lt {p : Pl} (h : p.Ok) {n : Nat} (hn : n ≤ 300) : Bl p n < 2 ^ 8999 := by
  refine Nat.lt_of_le_of_lt (Nat.pow_le_pow_left (show p.o ≤ 2 ^ 14 by have := h.o2; omega) n) ?_
  rw [← Nat.pow_mul]
  exact Nat.pow_lt_pow_right (by decide) (by omega)
theorem Gr_lt {p : Pl} (h : p.Ok) {n : Nat} (hn : n ≤ 300) : Gr p n < 2 ^ 8900 := by
  refine Nat.lt_of_le_of_lt (Nat.pow_le_pow_left (show p.o + p.m ≤ 2 ^ 15 by have := h.o2; have := h.m; omega) n) ?_
  rw [← Nat.pow_mul]
  exact Nat.pow_lt_pow_right (by decide) (by omega)
theorem Qu_lt {p : Pl} (h : p.Ok) {n : Nat} (hn : n ≤ 300) : Qu p n < 2 ^ 8999 := by
  have h1 := Qu_le p n
  have h2 : n * Gr p n ≤ 300 * Gr p n := Nat.mul_le_mul_right _ hn
  have h3 := Gr_lt h hn
  have h4 : 300 * Gr p n < 2 ^ 9 * 2 ^ 8900 := Nat.lt_of_lt_of_le (Nat.mul_lt_mul_of_pos_left h3 (by decide)) (Nat.mul_le_mul_right _ (by decide))
  rw [← Nat.pow_add] at h4
  have h5 : (2 : Nat) ^ (9 + 8900) ≤ 2 ^ 8999 := Nat.pow_le_pow_right (by decide) (by decide)
  omega
def lowD (T B : Nat) : D := .tup [.int ((T / Nat.gcd T B : Nat) : Int), .int ((B / Nat.gcd T B : Nat) : Int)]
theorem balance_ok {p : Pl} (h : p.Ok) {n : Nat} (hn : n ≤ 300) : F_balance [p.D, .int n] η = .ok (lowD (To p n) (Bl p n)) η := by
  refine ok_of_wpR1 ?_
  unfold F_balance b_balance
  rw [w_runF]
  simp
  refine wpR_of (needplan_ok h) (wpR_of (neednum_ok (by omega) (by omega)) (wpR_of (held_ok h (by omega)) ?_))
  simp
  exact wpR_of (lowest_ok (Bl_pos h n) (Bl_lt h hn)) ⟨rfl, rfl⟩
/-! ### who leads -/
def wd (x y : Int) : Str := if x = y then "both" else if x > y then "one" else "other"
theorem wordfor_ok {x y : Int} : F_word_for [.int x, .int y] η = .ok (.str (wd x y)) η := by
  refine ok_of_wpR1 ?_
  unfold F_word_for b_word_for wd
  rw [w_runF]
  by_cases h : x = y
  · simp [h]
  · by_cases h2 : y < x <;> simp [h, h2]
theorem To_lt {p : Pl} (h : p.Ok) {n : Nat} (hn : n ≤ 300) : To p n < 2 ^ 9100 := by
  have h1 : p.s * Gr p n ≤ 2 ^ 20 * 2 ^ 8900 := Nat.mul_le_mul (by have := h.s; omega) (Nat.le_of_lt (Gr_lt h hn))
  have h2 : p.d * Qu p n ≤ 2 ^ 20 * 2 ^ 8999 := Nat.mul_le_mul (by have := h.d; omega) (Nat.le_of_lt (Qu_lt h hn))
  rw [← Nat.pow_add] at h1 h2
  have h3 : (2 : Nat) ^ (20 + 8900) ≤ 2 ^ 9098 := Nat.pow_le_pow_right (by decide) (by decide)
  have h4 : (2 : Nat) ^ (20 + 8999) ≤ 2 ^ 9098 := Nat.pow_le_pow_right (by decide) (by decide)
  have h5 : (2 : Nat) ^ 9100 = 2 ^ 9098 * 4 := by rw [show (9100 : Nat) = 9098 + 2 from rfl, Nat.pow_add]
  have h6 : 1 ≤ (2 : Nat) ^ 9098 := Nat.one_le_pow _ _ (by decide)
  unfold To
  omega
theorem lt9 {x : Nat} {k : Nat} (h : x < 2 ^ k) (hk : k ≤ 9100) : x < 2 ^ 9100 := Nat.lt_of_lt_of_le h (Nat.pow_le_pow_right (by decide) hk)
def lead (p q : Pl) (n : Nat) : Str := wd ((To p n : Int) * (Bl q n : Int)) ((To q n : Int) * (Bl p n : Int))
theorem who_ok {p q : Pl} (h : p.Ok) (h' : q.Ok) {n : Nat} (hn : n ≤ 300) : F_who_leads [p.D, q.D, .int n] η = .ok (.str (lead p q n)) η := by
  refine ok_of_wpR1 ?_
  unfold F_who_leads b_who_leads
  rw [w_runF]
  simp
  refine wpR_of (held_ok h (by omega)) ?_
  simp
  refine wpR_of (held_ok h' (by omega)) ?_
  simp
  have z : ∀ {x : Nat}, x < 2 ^ 9100 → ((x : Nat) : Int).natAbs < 2 ^ 9100 := fun {x} hx => by rw [Int.natAbs_natCast]; exact hx
  refine ⟨mulW (k := 9100) (by decide) (z (To_lt h hn)) (z (lt9 (Bl_lt h' hn) (by decide))), mulW (k := 9100) (by decide) (z (To_lt h' hn)) (z (lt9 (Bl_lt h hn) (by decide))), ?_⟩
  exact wpR_of wordfor_ok ⟨rfl, rfl⟩
end K92
namespace K92
open PySem PySem.Spec PyProof.Rows L2 Dn
variable {η : Store}
/-! ### words -/
def Sg.str : Sg → Str
  | .one => "one"
  | .other => "other"
  | .both => "both"
def sgD (x : Sg) : D := .str x.str
theorem wd_sg (x y : Int) : wd x y = (sg (x - y)).str := by
  unfold wd
  by_cases h : x = y
  · rw [if_pos h, h, Int.sub_self]; rfl
  · rw [if_neg h]
    by_cases h2 : x > y
    · rw [if_pos h2, sg_pos (by omega)]; rfl
    · rw [if_neg h2, sg_neg' (by omega)]; rfl
theorem lead_sg (p q : Pl) (n : Nat) : lead p q n = (sg (fD p q n)).str := wd_sg _ _
theorem ne_sg (x y : Sg) : neD (sgD x) (sgD y) η = some (.bl (decide (x ≠ y)), η) := by cases x <;> cases y <;> kernel_rfl
theorem eq_sg (x y : Sg) : eqD (sgD x) (sgD y) η = some (.bl (decide (x = y)), η) := by cases x <;> cases y <;> kernel_rfl
abbrev Row := Nat × Sg
def rowD (r : Row) : D := .tup [.int r.1, sgD r.2]
theorem low_rows {n : Nat} : ∀ L : List Row, D.lows n (L.map rowD) = true
  | [] => rfl
  | r :: L => by
    show (D.low n (rowD r) && D.lows n (L.map rowD)) = true
    rw [low_rows L]; rfl
theorem pls_row (n : Nat) : ∀ (L : List Row), D.pls (n + 1) (L.map rowD) = true
  | [] => rfl
  | r :: L => by
    show (D.pl (n + 1) (rowD r) && D.pls (n + 1) (L.map rowD)) = true
    rw [pls_row n L]
    show ((D.pl n (.int r.1) && (D.pl n (.str r.2.str) && true)) && true) = true
    have h1 : D.pl n (.str r.2.str) = true := by cases n <;> (cases r.2 <;> kernel_rfl)
    have h2 : D.pl n (.int r.1) = true := by cases n <;> rfl
    rw [h1, h2]; rfl
theorem eq_row {k : Nat} {L : List Row} (h : η[k]? = some (.lst (L.map rowD))) : eqD (.obj k) (.lst []) η = some (.bl L.isEmpty, η) := by
  have h1 : D.pl 60 (D.vw η (.obj k)) = true := by
    unfold D.vw; dsimp only; rw [h]; exact pls_row 58 L
  rw [eqD_pl h1 rfl]
  unfold D.vw; dsimp only; rw [h]
  cases L <;> rfl
/-- found gets a row, if it brings another word -/
theorem put_row {k : Nat} {L : List Row} {a : Nat} {s : Sg} (h : η[k]? = some (.lst (L.map rowD))) (hl : L.length < 1000) {ρ : Dn.Env} {P : Po} {i j l : Nat} (hi : ρ[i]? = some (some (.obj k))) (hj : ρ[j]? = some (some (.int a))) (hs : ρ[l]? = some (some (sgD s)))
    (q : P.nx ρ (η.set k (.lst ((put L a s).map rowD)))) :
    Dn.wpS (sIf (orT (tst (e2 eqD (gv i) (mkL aNil))) (tst (e2 neD (e2 ixD (e2 ixD (gv i) (e1 negD (cst (.int 1)))) (cst (.int 1))) (gv l)))) (sExp (eMt "list" appD (gv i) (aCons (mkT (aCons (gv j) (aCons (gv l) aNil))) aNil))) sNil ρ η) P := by
  have kl : k < η.length := (List.getElem?_eq_some_iff.mp h).1
  have hz : (L.map rowD).length < sizeLine := by rw [List.length_map]; exact Nat.lt_of_lt_of_le hl (by decide)
  have e2 : η.set k (.lst (L.map rowD)) = η := by
    refine List.ext_getElem? fun j => ?_
    by_cases hj : j = k
    · subst hj; rw [h]; simp [kl]
    · rw [List.getElem?_set_ne (Ne.symm hj)]
  unfold put at q
  simp [hi, hj, hs, eq_row h]
  cases e : L.getLast? with
  | none =>
    have e0 : L = [] := List.getLast?_eq_none_iff.mp e
    subst e0
    simp [tyM_obj h, appD_obj h hz]
    simpa [rowD] using q
  | some r =>
    rw [e] at q
    dsimp only at q
    have hne : L ≠ [] := fun z => by rw [z] at e; cases e
    have h1 : atI (L.map rowD) (-1) = some (rowD r) := by
      rw [atI_last (by simpa using hne), List.getLast_map]
      rw [List.getLast?_eq_some_getLast hne] at e
      rw [Option.some.inj e]
    have h2 : L.isEmpty = false := by cases L with | nil => exact absurd rfl hne | cons _ _ => rfl
    simp [h2, ixD_obj h, h1]
    have h3 : ∀ η : Store, ixD (rowD r) (.int 1) η = some (sgD r.2, η) := fun η => rfl
    simp [h3, ne_sg]
    by_cases hb : r.2 = s
    · rw [if_pos hb, e2] at q
      simp [hb, hne]
      exact q
    · rw [if_neg hb] at q
      simp [hb, tyM_obj h, appD_obj h hz]
      simpa [rowD] using q
def runL (p q : Pl) (n : Nat) : List Row := rows (fun n => sg (fD p q n)) n
def Ild (p q : Pl) (n : Nat) (η : Store) (i : Nat) (ρ : Dn.Env) (η' : Store) : Prop := ∃ (x4 x5 : Option D), ρ = [some p.D, some q.D, some (.int n), some (.obj η.length), x4, x5] ∧ η' = η ++ [.lst ((runL p q i).map rowD)]
theorem run_len (p q : Pl) (n : Nat) : (runL p q n).length ≤ n := rows_len _ n
theorem lead_ok {p q : Pl} (h : p.Ok) (h' : q.Ok) {n : Nat} (hn : n ≤ 300) : F_lead_changes [p.D, q.D, .int n] η = .ok (.tup ((runL p q (n + 1)).map rowD)) η := by
  unfold F_lead_changes
  refine trim_ok (l := [.lst ((runL p q (n + 1)).map rowD)]) ?_ (low_rows _)
  refine (fun w : wpR (runF 6 b_lead_changes [p.D, q.D, .int n] η) (fun d η' => d = .tup ((runL p q (n + 1)).map rowD) ∧ η' = η ++ [.lst ((runL p q (n + 1)).map rowD)]) (fun _ _ => False) => ?_) ?_
  · obtain ⟨d, η', e, rfl, rfl⟩ := ok_of_wpR w
    exact e
  unfold b_lead_changes
  rw [w_runF]
  simp
  refine wpR_of (needplan_ok h) ?_
  refine wpR_of (needplan_ok h') ?_
  refine wpR_of (neednum_ok (by omega) (by omega)) ?_
  simp [w_for]
  refine ⟨⟨by omega, by omega⟩, ?_⟩
  refine w_forL (Ild p q n η) _ 0 ⟨none, none, rfl, rfl⟩ ?_ ?_
  · rintro j x hx ρ η2 ⟨x4, x5, rfl, rfl⟩
    have hj : j < n + 1 := by
      have := (List.getElem?_eq_some_iff.mp hx).1
      rwa [rng_length] at this
    have ex : x = .int j := by
      have := (List.getElem?_eq_some_iff.mp hx).2
      rw [← this]; simp [rng]
    subst ex
    rw [b_bN, wpO_some]
    unfold b_lead_changes_1
    rw [Nat.zero_add]
    have hk : (η ++ [O.lst ((runL p q j).map rowD)])[η.length]? = some (.lst ((runL p q j).map rowD)) := by simp
    have e : eCall 3 F_who_leads (aCons (gv 0) (aCons (gv 1) (aCons (gv 4) aNil))) [some p.D, some q.D, some (.int n), some (.obj η.length), some (.int j), x5] (η ++ [.lst ((runL p q j).map rowD)]) = .ok (sgD (sg (fD p q j))) (η ++ [.lst ((runL p q j).map rowD)]) := by
      have := who_ok (η := η ++ [.lst ((runL p q j).map rowD)]) h h' (n := j) (by omega)
      rw [lead_sg] at this
      exact this
    rw [w_seq, w_asg]
    refine wpR_of e ?_
    rw [b_bN, wpO_some]
    refine put_row (k := η.length) (L := runL p q j) (a := j) (s := sg (fD p q j)) hk (by have := run_len p q j; omega) rfl rfl rfl ?_
    exact ⟨_, _, rfl, by simp; rfl⟩
  · rintro ρ η2 ⟨x4, x5, rfl, rfl⟩
    rw [Nat.zero_add, rng_length]
    have e : ((n : Int) + 1).toNat = n + 1 := by omega
    simp [tupleD, seqL, e]
/-! ### the law's own steps -/
def stD (p : Pl) (i : Nat) : D := .tup [.int (To p i), .int (Bl p i)]
theorem low_st {p : Pl} {k : Nat} : ∀ L : List Nat, D.lows k (L.map (stD p)) = true
  | [] => rfl
  | r :: L => by
    show (D.low k (stD p r) && D.lows k (L.map (stD p))) = true
    rw [low_st L]; rfl
def Ist (p : Pl) (n : Nat) (η : Store) (i : Nat) (ρ : Dn.Env) (η' : Store) : Prop := ∃ (x7 x8 x9 : Option D), ρ = [some p.D, some (.int n), some (.int p.s), some (.int p.d), some (.int p.m), some (.int p.o), some (.obj η.length), x7, x8, x9] ∧ η' = η ++ [.lst ((List.range (i + 1)).map (stD p))]
theorem steps_ok {p : Pl} (h : p.Ok) {n : Nat} (hn : n ≤ 300) : F__law_steps [p.D, .int n] η = .ok (.lst ((List.range (n + 1)).map (stD p))) η := by
  unfold F__law_steps
  refine trim_lst (l := []) ?_ (low_st _)
  refine (fun w : wpR (runF 10 b__law_steps [p.D, .int n] η) (fun d η' => d = .obj η.length ∧ η' = η ++ [.lst ((List.range (n + 1)).map (stD p))]) (fun _ _ => False) => ?_) ?_
  · obtain ⟨d, η', e, rfl, rfl⟩ := ok_of_wpR w
    exact e
  have h1 := h.s; have h2 := h.d; have h3 := h.o2; have h4 := h.m
  unfold b__law_steps
  rw [w_runF]
  simp [w_for, Pl.D]
  refine ⟨⟨by omega, by omega⟩, ?_⟩
  refine w_forL (Ist p n η) _ 0 ⟨none, none, none, rfl, ?_⟩ ?_ ?_
  · simp [stD, To, Gr, Bl, Qu]
  · rintro j x hx ρ η2 ⟨x7, x8, x9, rfl, rfl⟩
    have hj : j < n := by
      have := (List.getElem?_eq_some_iff.mp hx).1
      rwa [rng_length] at this
    rw [b_bN, wpO_some, Nat.zero_add]
    unfold b__law_steps_1
    have hk : (η ++ [O.lst ((List.range (j + 1)).map (stD p))])[η.length]? = some (.lst ((List.range (j + 1)).map (stD p))) := by simp
    have hz : ((List.range (j + 1)).map (stD p)).length < sizeLine := by simp; exact Nat.lt_of_lt_of_le (show j + 1 < 1000 by omega) (by decide)
    have hlast : atI ((List.range (j + 1)).map (stD p)) (-1) = some (stD p j) := by
      rw [List.range_succ, List.map_append]; exact atI_snoc
    simp [ixD_obj hk, hlast, stD, tyM_obj hk]
    refine ⟨mulOk_r (by omega) (by omega), mulOk_l (by omega) (by omega), mulOk_r (by omega) (by omega), mulOk_r (by omega) (by omega), ?_⟩
    have e2 := appD_obj (v := stD p (j + 1)) hk hz
    have e3 : stD p (j + 1) = .tup [.int ((To p j : Int) * ((p.o : Int) + p.m) + p.d * Bl p j * p.o), .int ((Bl p j : Int) * p.o)] := by
      unfold stD
      rw [To_succ, Bl_succ]
      simp only [Int.natCast_add, Int.natCast_mul, Int.mul_assoc]
    rw [e3] at e2
    rw [e2, wpO_some]
    refine ⟨_, _, _, rfl, ?_⟩
    rw [List.range_succ (n := j + 1), List.map_append, List.map_singleton, e3]
    simp
  · rintro ρ η2 ⟨x7, x8, x9, rfl, rfl⟩
    rw [Nat.zero_add, rng_length]
    have e : ((n : Int)).toNat = n := by omega
    simp
end K92
namespace K92
open PySem PySem.Spec PyProof.Rows L2 Dn
variable {η : Store}
/-! ### the law's word, its changes -/
theorem eCall_eq {F : FF} {fA : FA} {ρ : Dn.Env} {ds : List D} {n : Nat} (h : fA ρ η = .ok ds η) (hn : ds.length = n) : eCall n F fA ρ η = F ds η := by
  unfold eCall
  rw [h]
  show (if ds.length = n then F ds η else .no) = _
  rw [if_pos hn]
theorem lword_ok {a b c d k : Nat} (hk : k ≤ 400000) (ha : a < 2 ^ k) (hb : b < 2 ^ k) (hc : c < 2 ^ k) (hd : d < 2 ^ k) :
    F__law_word_for [.tup [.int a, .int b], .tup [.int c, .int d]] η = .ok (sgD (sg ((a : Int) * d - (c : Int) * b))) η := by
  refine ok_of_wpR1 ?_
  unfold F__law_word_for b__law_word_for
  rw [w_runF]
  have z : ∀ {x : Nat}, x < 2 ^ k → ((x : Nat) : Int).natAbs < 2 ^ k := fun {x} hx => by rw [Int.natAbs_natCast]; exact hx
  simp
  refine ⟨mulW hk (z ha) (z hd), mulW hk (z hc) (z hb), ?_⟩
  rcases Int.lt_trichotomy ((a : Int) * d) ((c : Int) * b) with h | h | h
  · rw [sg_neg' (by omega), if_neg (by omega), if_neg (by omega)]; rfl
  · rw [if_pos h, h, Int.sub_self]; rfl
  · rw [sg_pos (by omega), if_neg (by omega), if_pos (by omega)]; rfl
theorem wpair_ok {p q : Pl} (h : p.Ok) (h' : q.Ok) {n : Nat} (hn : n ≤ 300) : F__law_word_for [stD p n, stD q n] η = .ok (sgD (sg (fD p q n))) η :=
  lword_ok (k := 9100) (by decide) (To_lt h hn) (lt9 (Bl_lt h hn) (by decide)) (To_lt h' hn) (lt9 (Bl_lt h' hn) (by decide))
theorem w_iEZ {ρ : Dn.Env} {fA : FA} {QS : Src → Store → Prop} {E : Ex → Store → Prop} : wpR (iEZ fA ρ η) QS E ↔ wpR (fA ρ η) (fun ds η => wpO (twoD ds) fun p => (lisD p.1 && lisD p.2) = true ∧ wpO (sqOf p.1 η) fun s1 => wpO (sqOf p.2 η) fun s2 => QS (enumS (zipS s1 s2)) η) E := by
  unfold iEZ; rw [wpR_bind]
  refine wpR_congr fun ds η => ?_
  match ds with
  | [] => exact Iff.rfl
  | [x] => exact Iff.rfl
  | [x, y] =>
    dsimp only [twoD]
    by_cases hl : (lisD x && lisD y) = true
    · rw [if_pos hl]
      have hl' := Bool.and_eq_true_iff.mp hl
      cases h : sqOf x η with
      | none => simp [h]
      | some s1 => cases h2 : sqOf y η <;> simp [h, h2, hl']
    · rw [if_neg hl]; exact ⟨fun z => z.elim, fun z => absurd z.1 hl⟩
  | x :: y :: z :: r => exact Iff.rfl
theorem ez_list (p q : Pl) (n : Nat) : ((List.range n).map fun a => D.tup [stD p a, stD q a]).zipIdx.map (fun r => D.tup [.int (r.2 : Nat), r.1]) = (List.range n).map fun i => .tup [.int i, .tup [stD p i, stD q i]] := by
  refine List.ext_getElem? fun i => ?_
  rw [List.getElem?_map, List.getElem?_zipIdx, List.getElem?_map, List.getElem?_map]
  by_cases hi : i < n
  · rw [List.getElem?_range hi]; simp
  · rw [List.getElem?_eq_none (by simpa using hi)]; rfl
def Ich (p q : Pl) (n : Nat) (η : Store) (i : Nat) (ρ : Dn.Env) (η' : Store) : Prop := ∃ (x4 x5 x6 x7 : Option D), ρ = [some p.D, some q.D, some (.int n), some (.obj η.length), x4, x5, x6, x7] ∧ η' = η ++ [.lst ((runL p q i).map rowD)]
theorem changes_ok {p q : Pl} (h : p.Ok) (h' : q.Ok) {n : Nat} (hn : n ≤ 300) : F__law_changes [p.D, q.D, .int n] η = .ok (.tup ((runL p q (n + 1)).map rowD)) η := by
  unfold F__law_changes
  refine trim_ok (l := [.lst ((runL p q (n + 1)).map rowD)]) ?_ (low_rows _)
  refine (fun w : wpR (runF 8 b__law_changes [p.D, q.D, .int n] η) (fun d η' => d = .tup ((runL p q (n + 1)).map rowD) ∧ η' = η ++ [.lst ((runL p q (n + 1)).map rowD)]) (fun _ _ => False) => ?_) ?_
  · obtain ⟨d, η', e, rfl, rfl⟩ := ok_of_wpR w
    exact e
  unfold b__law_changes
  rw [w_runF]
  simp [w_for, w_iEZ]
  refine wpR_of (steps_ok h hn) (wpR_of (steps_ok h' hn) ?_)
  simp [lisD]
  rw [ez_list]
  refine w_forL (Ich p q n η) _ 0 ⟨none, none, none, none, rfl, rfl⟩ ?_ ?_
  · rintro j x hx ρ η2 ⟨x4, x5, x6, x7, rfl, rfl⟩
    have hj : j < n + 1 := by
      have := (List.getElem?_eq_some_iff.mp hx).1
      simpa using this
    have ex : x = .tup [.int j, .tup [stD p j, stD q j]] := by
      have := (List.getElem?_eq_some_iff.mp hx).2
      rw [← this]; simp
    subst ex
    rw [Nat.zero_add]
    simp
    unfold b__law_changes_1
    have hk : (η ++ [O.lst ((runL p q j).map rowD)])[η.length]? = some (.lst ((runL p q j).map rowD)) := by simp
    have e : eCall 2 F__law_word_for (aCons (gv 5) (aCons (gv 6) aNil)) [some p.D, some q.D, some (.int n), some (.obj η.length), some (.int j), some (stD p j), some (stD q j), x7] (η ++ [.lst ((runL p q j).map rowD)]) = .ok (sgD (sg (fD p q j))) (η ++ [.lst ((runL p q j).map rowD)]) :=
      (eCall_eq (ds := [stD p j, stD q j]) rfl rfl).trans (wpair_ok h h' (by omega))
    rw [w_seq, w_asg]
    refine wpR_of e ?_
    rw [b_bN, wpO_some]
    refine put_row (k := η.length) (L := runL p q j) (a := j) (s := sg (fD p q j)) hk (by have := run_len p q j; omega) rfl rfl rfl ?_
    exact ⟨_, _, _, _, rfl, by simp; rfl⟩
  · rintro ρ η2 ⟨x4, x5, x6, x7, rfl, rfl⟩
    simp [tupleD, seqL]
/-! ### far on -/
theorem Gr_two (p : Pl) (n : Nat) : Gr p (n + n) = Gr p n * Gr p n := Nat.pow_add _ _ _
theorem Bl_two (p : Pl) (n : Nat) : Bl p (n + n) = Bl p n * Bl p n := Nat.pow_add _ _ _
theorem Qu_add (p : Pl) (n : Nat) : ∀ k, Qu p (n + k) = Qu p n * Gr p k + Bl p n * Qu p k
  | 0 => by simp [Gr, Qu]
  | k + 1 => by
    have ih := Qu_add p n k
    show Qu p (n + k) * (p.o + p.m) + Bl p (n + k + 1) = _
    have e : Bl p (n + k + 1) = Bl p n * Bl p (k + 1) := by show p.o ^ (n + (k + 1)) = _; exact Nat.pow_add _ _ _
    have e2 : Qu p (k + 1) = Qu p k * (p.o + p.m) + Bl p (k + 1) := rfl
    rw [ih, e, e2, Gr_succ]
    grind
theorem Gr_far {p : Pl} (h : p.Sm 20) {n : Nat} (hn : n ≤ 2048) : Gr p n < 2 ^ 12289 := by
  refine Nat.lt_of_le_of_lt (Nat.pow_le_pow_left (show p.o + p.m ≤ 2 ^ 6 by have := h.o2; have := h.m; omega) n) ?_
  rw [← Nat.pow_mul]
  exact Nat.pow_lt_pow_right (by decide) (by omega)
theorem Bl_far {p : Pl} (h : p.Sm 20) {n : Nat} (hn : n ≤ 2048) : Bl p n < 2 ^ 12289 := Nat.lt_of_le_of_lt (Bl_le_Gr p n) (Gr_far h hn)
theorem Qu_far {p : Pl} (h : p.Sm 20) {n : Nat} (hn : n ≤ 2048) : Qu p n < 2 ^ 12300 := by
  have h1 := Qu_le p n
  have h2 : n * Gr p n ≤ 2048 * Gr p n := Nat.mul_le_mul_right _ hn
  have h3 := Gr_far h hn
  have h4 : 2048 * Gr p n < 2 ^ 11 * 2 ^ 12289 := Nat.mul_lt_mul_of_pos_left h3 (by decide)
  rw [← Nat.pow_add] at h4
  omega
theorem lt20 {x k : Nat} (h : x < 2 ^ k) (hk : k ≤ 20000) : x < 2 ^ 20000 := Nat.lt_of_lt_of_le h (Nat.pow_le_pow_right (by decide) hk)
theorem To_far {p : Pl} (h : p.Sm 20) {n : Nat} (hn : n ≤ 2048) : To p n < 2 ^ 20000 := by
  have h1 : p.s * Gr p n ≤ 2 ^ 6 * 2 ^ 12289 := Nat.mul_le_mul (by have := h.s; omega) (Nat.le_of_lt (Gr_far h hn))
  have h2 : p.d * Qu p n ≤ 2 ^ 6 * 2 ^ 12300 := Nat.mul_le_mul (by have := h.d; omega) (Nat.le_of_lt (Qu_far h hn))
  rw [← Nat.pow_add] at h1 h2
  have h3 : (2 : Nat) ^ (6 + 12289) ≤ 2 ^ 12310 := Nat.pow_le_pow_right (by decide) (by decide)
  have h4 : (2 : Nat) ^ (6 + 12300) ≤ 2 ^ 12310 := Nat.pow_le_pow_right (by decide) (by decide)
  have h5 : (2 : Nat) ^ 12312 = 2 ^ 12310 * 4 := by rw [show (12312 : Nat) = 12310 + 2 from rfl, Nat.pow_add]
  have h6 : 1 ≤ (2 : Nat) ^ 12310 := Nat.one_le_pow _ _ (by decide)
  refine lt20 (k := 12312) ?_ (by decide)
  unfold To
  omega
def Ifa (p : Pl) (η : Store) (i : Nat) (ρ : Dn.Env) (η' : Store) : Prop := ∃ x8 : Option D, ρ = [some p.D, some (.int p.s), some (.int p.d), some (.int p.m), some (.int p.o), some (.int (Gr p (2 ^ i))), some (.int (Qu p (2 ^ i))), some (.int (Bl p (2 ^ i))), x8] ∧ η' = η
theorem far_ok {p : Pl} (h : p.Sm 20) : F__law_far [p.D] η = .ok (stD p 2048) η := by
  refine ok_of_wpR1 ?_
  have h1 := h.s; have h2 := h.d; have h3 := h.o2; have h4 := h.m; have h5 := h.o1
  unfold F__law_far b__law_far
  rw [w_runF]
  simp [w_for, Pl.D]
  refine ⟨by decide, ?_⟩
  refine w_forL (Ifa p η) _ 0 ⟨none, ?_, rfl⟩ ?_ ?_
  · simp [Pl.D, Gr, Bl, Qu]
  · rintro j x hx ρ η2 ⟨x8, rfl, rfl⟩
    have hj : j < 11 := by
      have := (List.getElem?_eq_some_iff.mp hx).1
      simpa [rng] using this
    rw [b_bN, wpO_some, Nat.zero_add]
    unfold b__law_far_1
    have hp : 2 ^ j ≤ 2048 := Nat.pow_le_pow_right (n := 2) (by decide) (show j ≤ 11 by omega)
    have z : ∀ {x k : Nat}, x < 2 ^ k → k ≤ 20000 → ((x : Nat) : Int).natAbs < 2 ^ 20000 := fun {x k} hx hk => by rw [Int.natAbs_natCast]; exact lt20 hx hk
    have g1 := z (Gr_far h hp) (by decide)
    have g2 := z (Bl_far h hp) (by decide)
    have g3 := z (Qu_far h hp) (by decide)
    have e2 : 2 ^ (j + 1) = 2 ^ j + 2 ^ j := by rw [Nat.pow_succ]; omega
    simp [-Int.natCast_pow]
    refine ⟨mulW (by decide) g1 g1, mulW (by decide) g3 g1, mulW (by decide) g3 g2, mulW (by decide) g2 g2, ?_⟩
    refine ⟨some x, ?_, rfl⟩
    rw [e2, Gr_two, Bl_two, Qu_add]
    simp only [Int.natCast_mul, Int.natCast_add]
    rw [Int.mul_comm (Bl p (2 ^ j) : Int) (Qu p (2 ^ j))]
  · rintro ρ η2 ⟨x8, rfl, rfl⟩
    have e : (rng 0 (11 : Int).toNat).length = 11 := by rw [rng_length]; rfl
    have e2 : 0 + (rng 0 (11 : Int).toNat).length = 11 := by rw [e]
    simp [rng_length]
    refine ⟨mulOk_l (by omega) (by omega), mulOk_l (by omega) (by omega), ?_⟩
    unfold stD To
    simp
/-! ### plans -/
theorem plan_ok {a b : Nat} (c : Cup 0 η) (hb : 1 ≤ b) (hb2 : b ≤ 10000) (ha : a ≤ 1000000) {Q : D → Store → Prop} {E : Ex → Store → Prop} (q : ∀ p η', p.s ≤ a → p.d ≤ a → 1 ≤ p.o → p.o ≤ b → p.m ≤ p.o → Cup 0 η' → Q (Pl.D p) η') :
    wpR (F__law_plan [.obj 0, .int a, .int b] η) Q E := by
  unfold F__law_plan b__law_plan
  rw [w_runF]
  simp
  refine roll_ok.wp c (by omega) (by omega) fun o η1 h1 h2 c1 _ => ?_
  refine roll_ok.wp c1 (by omega) (by omega) fun m0 η2 h3 h4 c2 _ => ?_
  try simp
  refine some_ok.wp c2 (by simp) (by simp) fun m η3 h5 c3 _ => ?_
  obtain ⟨mi, rfl, hm0, hm1⟩ : ∃ mi : Int, m = .int mi ∧ 0 ≤ mi ∧ mi ≤ 1 + o + 1 := by
    simp at h5
    rcases h5 with rfl | rfl | rfl
    · exact ⟨_, rfl, by omega, by omega⟩
    · exact ⟨_, rfl, by omega, by omega⟩
    · exact ⟨_, rfl, by omega, by omega⟩
  have num : ∀ {x : D} {r : Int}, x ∈ [D.int 0, .int r] → 0 ≤ r → r < (a : Int) + 1 → ∃ k : Nat, x = .int k ∧ k ≤ a := fun {x r} hx h0 h1 => by
    simp at hx
    rcases hx with rfl | rfl
    · exact ⟨0, rfl, Nat.zero_le _⟩
    · exact ⟨r.toNat, by rw [Int.toNat_of_nonneg h0], by omega⟩
  refine roll_ok.wp c3 (by omega) (by omega) fun r1 η4 h6 h7 c4 _ => ?_
  try simp
  refine some_ok.wp c4 (by simp) (by simp) fun s η5 h8 c5 _ => ?_
  obtain ⟨s, rfl, hs⟩ := num h8 h6 h7
  refine roll_ok.wp c5 (by omega) (by omega) fun r2 η6 h9 h10 c6 _ => ?_
  try simp
  refine some_ok.wp c6 (by simp) (by simp) fun d η7 h11 c7 _ => ?_
  obtain ⟨d, rfl, hd⟩ := num h11 h9 h10
  have key := q ⟨s, d, (if 1 + o < mi then 1 + o else mi).toNat, (1 + o).toNat⟩ η7 hs hd (by show 1 ≤ (1 + o).toNat; omega) (by show (1 + o).toNat ≤ b; omega) (by show (if 1 + o < mi then 1 + o else mi).toNat ≤ (1 + o).toNat; split <;> omega) c7
  unfold Pl.D at key
  dsimp only at key
  rw [Int.toNat_of_nonneg (show (0 : Int) ≤ 1 + o by omega), Int.toNat_of_nonneg (show 0 ≤ if 1 + o < mi then 1 + o else mi by split <;> omega)] at key
  exact key
theorem pair_ok (c : Cup 0 η) {Q : D → Store → Prop} {E : Ex → Store → Prop} (q : ∀ x y η', Pair x y → Cup 0 η' → Q (.tup [Pl.D x, Pl.D y]) η') : wpR (F__law_pair [.obj 0] η) Q E := by
  unfold F__law_pair b__law_pair
  rw [w_runF]
  simp
  refine plan_ok (a := 60) (b := 10) c (by decide) (by decide) (by decide) fun x η1 a1 a2 a3 a4 a5 c1 => ?_
  refine plan_ok (a := 60) (b := 10) c1 (by decide) (by decide) (by decide) fun y η2 b1 b2 b3 b4 b5 c2 => ?_
  refine roll_ok.wp c2 (by decide) (by decide) fun r η3 h1 h2 c3 _ => ?_
  have cut2 : ∀ z : Pl, slD z.D none (some 2) η3 = some (.tup [.int z.s, .int z.d], η3) := fun z => rfl
  have cut3 : ∀ z : Pl, slD z.D (some 2) none η3 = some (.tup [.int z.m, .int z.o], η3) := fun z => rfl
  have i0 : ∀ z : Pl, ixD z.D (.int 0) η3 = some (.int z.s, η3) := fun z => rfl
  have i1 : ∀ z : Pl, ixD z.D (.int 1) η3 = some (.int z.d, η3) := fun z => rfl
  have i2 : ∀ z : Pl, ixD z.D (.int 2) η3 = some (.int z.m, η3) := fun z => rfl
  have i3 : ∀ z : Pl, ixD z.D (.int 3) η3 = some (.int z.o, η3) := fun z => rfl
  have px : x.Sm 20 := ⟨a1, a2, a3, by omega, a5⟩
  have py : y.Sm 20 := ⟨b1, b2, b3, by omega, b5⟩
  by_cases r0 : r = 0
  · subst r0
    simp [cut2, cut3]
    exact q x ⟨y.s, y.d, x.m, x.o⟩ η3 ⟨px, ⟨b1, b2, a3, by show x.o ≤ 20; omega, a5⟩, .inr rfl⟩ c3
  · by_cases r1 : r = 1
    · subst r1
      simp [cut2, i2, i3]
      have key := q x ⟨x.s, x.d, 2 * x.m, 2 * x.o⟩ η3 ⟨px, ⟨a1, a2, by show 1 ≤ 2 * x.o; omega, by show 2 * x.o ≤ 20; omega, by show 2 * x.m ≤ 2 * x.o; omega⟩, .inr (by show x.m * (2 * x.o) = 2 * x.m * x.o; grind)⟩ c3
      simpa [Pl.D] using key
    · by_cases r2 : r = 2
      · subst r2
        simp [i0, i1, cut3]
        exact q x ⟨x.s, y.d, x.m, x.o⟩ η3 ⟨px, ⟨a1, b2, a3, by show x.o ≤ 20; omega, a5⟩, .inr rfl⟩ c3
      · simp [r0, r1, r2]
        exact q x y η3 ⟨px, py, .inl ⟨a4, b4⟩⟩ c3
end K92
namespace K92
open PySem PySem.Spec PyProof.Rows L2 Dn
variable {η : Store}
/-! ### the last word -/
theorem wordsg_ok {x y : Int} : F_word_for [.int x, .int y] η = .ok (sgD (sg (x - y))) η := by
  have := wordfor_ok (η := η) (x := x) (y := y)
  rw [wd_sg] at this
  exact this
def T0 (p : Pl) : Int × Int := if p.m = 0 then (0, 1) else (Cp p, p.m)
def T1 (p : Pl) : Int × Int := if p.m = 0 then (p.d, 1) else (0, 1)
def T2 (p : Pl) : Int × Int := if p.m = 0 then (p.s, 1) else (-(p.d : Int) * p.o, p.m)
def prD (x : Int × Int) : D := .tup [.int x.1, .int x.2]
theorem terms_ok {p : Pl} (h : p.Ok) : F_terms_of [p.D] η = .ok (.tup [prD (T0 p), prD (T1 p), prD (T2 p)]) η := by
  refine ok_of_wpR1 ?_
  have h1 := h.s; have h2 := h.d; have h3 := h.o2; have h4 := h.m
  unfold F_terms_of b_terms_of
  rw [w_runF]
  by_cases hm : p.m = 0
  · simp [Pl.D, hm, T0, T1, T2, prD]
  · simp [Pl.D, hm, T0, T1, T2, prD]
    refine ⟨mulOk_l (by omega) (by omega), mulOk_l (by omega) (by omega), mulOk_l (by omega) (by omega), ?_⟩
    simp [Cp]
def sml (x : Int) : Prop := -18446744073709551616 < x ∧ x < 18446744073709551616
theorem comp_ok {x y : Int × Int} (hx : sml x.2) (hy : sml y.2) : F_compared [prD x, prD y] η = .ok (sgD (sg (x.1 * y.2 - y.1 * x.2))) η := by
  refine ok_of_wpR1 ?_
  unfold F_compared b_compared
  rw [w_runF]
  simp [prD]
  refine ⟨mulOk_r hy.1 hy.2, mulOk_r hx.1 hx.2, ?_⟩
  exact wpR_of wordsg_ok ⟨rfl, rfl⟩
theorem neD_sgs (L : List Sg) : neD (.lst (L.map sgD)) (.lst []) η = some (.bl (!L.isEmpty), η) := by
  have hp : D.pl 60 (.lst (L.map sgD)) = true := by
    have : ∀ (n : Nat) (L : List Sg), D.pls (n + 1) (L.map sgD) = true := fun n L => by
      induction L with
      | nil => rfl
      | cons x L ih =>
        show (D.pl (n + 1) (sgD x) && D.pls (n + 1) (L.map sgD)) = true
        rw [ih, Bool.and_true]
        cases x <;> kernel_rfl
    exact this 58 L
  rw [neD_pl (x := .lst (L.map sgD)) (y := .lst []) (η := η) hp rfl]
  cases L <;> rfl
def first3 (a b c : Sg) : Sg := first a (first b c)
theorem three_ok {a b c : Sg} {x0 x1 x2 x3 x4 x6 x7 : Option D} {P : Po} (q : P.rt (sgD (first3 a b c)) η) :
    Dn.wpS ((sSeq (sAsg (lc fuel [7] (iVal (gv 5)) (bN 7) (tst (e2 neD (gv 7) (cst (.str "both")))) (gv 7)) (bN 5)) (sRet (ifE (tst (e2 neD (gv 5) (mkL aNil))) (e2 ixD (gv 5) (cst (.int 0))) (cst (.str "both")))))
      [x0, x1, x2, x3, x4, some (.lst [sgD a, sgD b, sgD c]), x6, x7] η) P := by
  rw [w_seq, w_asg, w_lc]
  simp [-w_seq, w_nx, cmpS]
  refine wpR_of (cmp_off (α := Sg) sgD sgD (fun x => decide (x ≠ .both)) [a, b, c] fun x hx => ⟨_, rfl, ?_, fun _ => rfl⟩) ?_
  · refine ok_of_wpR1 ?_
    have e := ne_sg (η := η) x .both
    have e' : neD (sgD x) (.str "both") η = some (.bl (decide (x ≠ .both)), η) := e
    simp [wipeD, e']
  · refine ⟨szle (by rw [List.length_map]; exact Nat.le_trans (List.length_filter_le _ _) (by show 3 ≤ 1000000; decide)), ?_⟩
    rw [neD_sgs, wpO_some]
    revert q
    unfold first3 first
    cases a <;> cases b <;> cases c <;> (intro q; simp [sgD] at q ⊢; exact q)
def wrd (p q : Pl) (i : Nat) : Sg := match i with
  | 0 => sg ((T0 p).1 * (T0 q).2 - (T0 q).1 * (T0 p).2)
  | 1 => sg ((T1 p).1 * (T1 q).2 - (T1 q).1 * (T1 p).2)
  | _ => sg ((T2 p).1 * (T2 q).2 - (T2 q).1 * (T2 p).2)
theorem T_sml {p : Pl} (h : p.Ok) : sml (T0 p).2 ∧ sml (T1 p).2 ∧ sml (T2 p).2 := by
  have h3 := h.o2; have h4 := h.m
  unfold T0 T1 T2 sml
  by_cases hm : p.m = 0
  · simp [hm]
  · simp [hm]; omega
theorem evens_ok {p q : Pl} (h : p.Ok) (h' : q.Ok) (hr : rate p q = .both) : first3 (wrd p q 0) (wrd p q 1) (wrd p q 2) = evens p q := by
  have o1 := h.o1; have o2 := h'.o1
  have er : (p.m : Int) * q.o = (q.m : Int) * p.o := by
    unfold rate sg at hr
    split at hr
    · omega
    · split at hr <;> cases hr
  have er' : p.m * q.o = q.m * p.o := by exact_mod_cast er
  unfold evens first3 wrd T0 T1 T2
  by_cases hm : p.m = 0
  · have hm2 : q.m = 0 := by
      rw [hm, Nat.zero_mul] at er'
      rcases Nat.mul_eq_zero.mp er'.symm with z | z <;> omega
    simp [hm, hm2]
    simp [sg, first]
  · have hm2 : q.m ≠ 0 := fun z => by
      rw [z, Nat.zero_mul] at er'
      rcases Nat.mul_eq_zero.mp er' with z | z <;> omega
    simp [hm, hm2]
    have : ∀ x : Sg, first (sg 0) x = x := fun x => rfl
    rw [this]
theorem restw_ok {p q : Pl} (h : p.Ok) (h' : q.Ok) : F_rest_word [p.D, q.D] η = .ok (sgD (rest p q)) η := by
  refine ok_of_wpR1 ?_
  unfold F_rest_word b_rest_word
  rw [w_runF]
  simp [w_lc, w_nx, cmpS]
  refine wpR_of (cmp_of (α := Pl) Pl.D (fun z => .bl (decide (z.s + z.d = 0))) [p, q] fun z hz => ⟨_, rfl, rfl, ok_of_wpR1 ?_⟩) ?_
  · simp [wipeD, Pl.D]
    by_cases hz : z.s = 0 ∧ z.d = 0
    · simp [hz]
    · by_cases hz2 : (z.s : Int) + z.d = 0
      · omega
      · simp [hz2]; omega
  · unfold rest
    by_cases h1 : p.s = 0 ∧ p.d = 0
    · by_cases h2 : q.s = 0 ∧ q.d = 0
      · simp [h1, h2]; rfl
      · simp [h1, h2]; rfl
    · simp [h1]; rfl
theorem lastw_ok {p q : Pl} (h : p.Ok) (h' : q.Ok) : F_last_word [p.D, q.D] η = .ok (sgD (lw p q)) η := by
  refine ok_of_wpR1 ?_
  have h1 := h.s; have h2 := h.d; have h3 := h.o2; have h4 := h.m
  have k3 := h'.o2; have k4 := h'.m
  have i2 : ∀ (z : Pl) (η : Store), ixD z.D (.int 2) η = some (.int z.m, η) := fun z _ => rfl
  have i3 : ∀ (z : Pl) (η : Store), ixD z.D (.int 3) η = some (.int z.o, η) := fun z _ => rfl
  have i00 : ∀ (z : Pl) (η : Store), ixD (prD (T0 z)) (.int 0) η = some (.int (T0 z).1, η) := fun z _ => rfl
  have g0 : ∀ z : Pl, (T0 z).1 = (gp z : Int) := fun z => by unfold T0 gp; split <;> rfl
  unfold F_last_word b_last_word
  rw [w_runF]
  rw [w_seq]; simp [-w_seq]
  refine wpR_of (terms_ok h) (wpR_of (terms_ok h') ?_)
  rw [w_seq]; simp [-w_seq, i2, i3]
  refine ⟨mulOk_l (by omega) (by omega), mulOk_l (by omega) (by omega), ?_⟩
  refine wpR_of wordsg_ok ?_
  have er : sg ((p.m : Int) * q.o - (q.m : Int) * p.o) = rate p q := rfl
  rw [er]
  have e1 : ∀ η : Store, eqD (sgD (rate p q)) (.str "one") η = some (.bl (decide (rate p q = .one)), η) := fun η => eq_sg (rate p q) .one
  have e2 : ∀ η : Store, eqD (sgD (rate p q)) (.str "other") η = some (.bl (decide (rate p q = .other)), η) := fun η => eq_sg (rate p q) .other
  have e3 : ∀ η : Store, eqD (sgD (rate p q)) (.str "both") η = some (.bl (decide (rate p q = .both)), η) := fun η => eq_sg (rate p q) .both
  rw [w_seq]; simp [-w_seq, e1, i00, g0]
  unfold lw
  by_cases c1 : rate p q = .one ∧ 0 < gp p
  · rw [if_pos c1]
    simp [c1.1, c1.2]; rfl
  · rw [if_neg c1]
    have k : ∀ (A B C : Prop) , (¬ (rate p q = .one ∧ 0 < gp p)) → C → (if rate p q = .one then (if 0 < gp p then A else C) else C) := fun A B C hn hc => by
      split
      · split
        · exact absurd ⟨by assumption, by assumption⟩ hn
        · exact hc
      · exact hc
    refine k _ True _ c1 ?_
    rw [w_seq]; simp [-w_seq, e2, i00, g0]
    by_cases c2 : rate p q = .other ∧ 0 < gp q
    · rw [if_pos c2]
      simp [c2.1, c2.2]; rfl
    · rw [if_neg c2]
      have k : ∀ (A B C : Prop) , (¬ (rate p q = .other ∧ 0 < gp q)) → C → (if rate p q = .other then (if 0 < gp q then A else C) else C) := fun A B C hn hc => by
        split
        · split
          · exact absurd ⟨by assumption, by assumption⟩ hn
          · exact hc
        · exact hc
      refine k _ True _ c2 ?_
      rw [w_seq]; simp [-w_seq, e3]
      by_cases c3 : rate p q = .both
      · rw [if_pos c3, if_pos c3, w_seq, w_asg, w_lc]
        simp [-w_seq, w_nx, cmpS]
        refine ⟨by decide, ?_⟩
        have er3 : rng 0 3 = [.int 0, .int 1, .int 2] := rfl
        rw [er3]
        have tp := T_sml h; have tq := T_sml h'
        refine wpR_of (r := cmp _ _ _ _ _ _) (a := [sgD (wrd p q 0), sgD (wrd p q 1), sgD (wrd p q 2)]) (η := η) ?_ ?_
        · have c0 := comp_ok (η := η) tp.1 tq.1
          have c1 := comp_ok (η := η) tp.2.1 tq.2.1
          have c2 := comp_ok (η := η) tp.2.2 tq.2.2
          refine ok_of_wpR1 ?_
          simp [w_cmp1, w_cmp0, wipeD]
          refine wpR_of c0 ?_
          refine wpR_of c1 ?_
          refine wpR_of c2 ?_
          exact ⟨⟨rfl, rfl, rfl⟩, rfl⟩
        · refine ⟨szle (by simp), ?_⟩
          refine three_ok ?_
          rw [evens_ok h h' c3]
          exact ⟨rfl, rfl⟩
      · rw [if_neg c3, if_neg c3]
        exact wpR_of (restw_ok h h') ⟨rfl, rfl⟩
theorem final_ok {p q : Pl} (h : p.Ok) (h' : q.Ok) : F_final_leader [p.D, q.D] η = .ok (sgD (lw p q)) η := by
  refine ok_of_wpR1 ?_
  unfold F_final_leader b_final_leader
  rw [w_runF]
  simp
  refine wpR_of (needplan_ok h) (wpR_of (needplan_ok h') ?_)
  exact wpR_of (lastw_ok h h') ⟨rfl, rfl⟩
end K92
namespace K92
open PySem PySem.Spec PyProof.Rows L2 Dn
variable {η : Store}
/-! ### right -/
theorem sm_sg (n : Nat) (x : Sg) : D.sm n (sgD x) = true := by cases n <;> (cases x <;> kernel_rfl)
theorem sm_row (n : Nat) (r : Row) : D.sm (n + 1) (rowD r) = true := by
  unfold rowD
  simp [D.sm, sm_sg]
theorem sm_rows (n : Nat) {L : List Row} (hl : L.length ≤ 1000) : D.sm (n + 2) (.tup (L.map rowD)) = true := by
  simp [D.sm]
  exact ⟨fun a b _ => sm_row n (a, b), by omega⟩
theorem same_rows {L : List Row} (hl : L.length ≤ 1000) : F__law_same 4 [.tup (L.map rowD), .tup (L.map rowD)] η = .ok (.bl true) η := same_ok 3 _ _ (sm_rows 1 hl)
def backK : List (Key × D) := [(.inr "one", .str "other"), (.inr "other", .str "one"), (.inr "both", .str "both")]
theorem back_new (ρ : Dn.Env) (η : Store) : mkDP (pCons (cst (.str "one")) (cst (.str "other")) (pCons (cst (.str "other")) (cst (.str "one")) (pCons (cst (.str "both")) (cst (.str "both")) pNil))) ρ η = .ok (.obj η.length) (η ++ [.dK backK]) := by kernel_rfl
theorem back_at {k : Nat} (h : η[k]? = some (.dK backK)) (x : Sg) : ixX (.obj k) (sgD x) η = some (sgD x.back, η) := by
  have e : ∀ x : Sg, keyD (sgD x) = some (.inr x.str) := fun x => rfl
  have g : getD backK (.inr x.str) = some (sgD x.back) := by cases x <;> kernel_rfl
  unfold ixX dget
  dsimp only
  rw [h]
  dsimp only
  rw [e]
  dsimp only
  rw [g]
theorem run_back (p q : Pl) (n : Nat) : runL q p n = (runL p q n).map fun r => (r.1, r.2.back) := by
  unfold runL
  rw [← rows_back]
  congr 1
  funext n
  rw [fD_neg, sg_neg]
theorem few_run {p q : Pl} (h : p.Ok) (h' : q.Ok) (n : Nat) : ((runL p q (n + 1)).filter (fun r => decide (r.2 ≠ .both))).length ≤ 3 ∧ ((runL p q (n + 1)).filter (fun r => decide (r.2 = .both))).length ≤ 2 := by
  obtain ⟨a, b⟩ := few_lead h h' n
  rw [List.filter_map, List.length_map] at a b
  exact ⟨a, b⟩
theorem sml_ok {p : Pl} {O : Nat} (h : p.Sm O) (hO : O ≤ 20) : p.Ok := ⟨by have := h.s; omega, by have := h.d; omega, h.o1, by have := h.o2; omega, h.m⟩
theorem asg_eq {f : FE} {ρ : Dn.Env} {i : Nat} {d : D} {η1 : Store} {P : Po} (e : f ρ η = .ok d η1) (h : P.nx (ρ.set i (some d)) η1) : Dn.wpS (sAsg f (bN i) ρ η) P := by
  rw [w_asg]
  exact wpR_of e h
theorem wfar_ok {p q : Pl} (h : Pair p q) : F__law_word_for [stD p 2048, stD q 2048] η = .ok (sgD (lw p q)) η := by
  rw [← last_ok h]
  exact lword_ok (k := 20000) (by decide) (To_far h.p (by decide)) (lt20 (Bl_far h.p (by decide)) (by decide)) (To_far h.q (by decide)) (lt20 (Bl_far h.q (by decide)) (by decide))
theorem same_two (a b : Sg) : F__law_same 4 [.tup [sgD a, sgD b], .tup [sgD a, sgD b]] η = .ok (.bl true) η := same_ok 3 _ _ (by
  simp [D.sm, sm_sg])
theorem right_ok (c : Cup 0 η) {Q : D → Store → Prop} {E : Ex → Store → Prop} (q : ∀ η', Cup 0 η' → Q (.bl true) η') : wpR (F__law_right [.obj 0] η) Q E := by
  have tt : ∀ η : Store, truD (.bl true) η = some true := fun _ => rfl
  unfold F__law_right b__law_right
  rw [w_runF]
  rw [w_seq]; simp [-w_seq]
  refine pair_ok c fun x y η1 hp c1 => ?_
  have hx := sml_ok hp.p (by decide)
  have hy := sml_ok hp.q (by decide)
  simp [-w_seq]
  rw [w_seq]; simp [-w_seq]
  refine roll_ok.wp c1 (by decide) (by decide) fun r η2 h1 h2 c2 _ => ?_
  obtain ⟨n, rfl⟩ : ∃ n : Nat, r = n := ⟨r.toNat, by omega⟩
  have hn : n ≤ 300 := by omega
  rw [w_seq]; simp [-w_seq]
  refine wpR_of (lead_ok hx hy hn) (wpR_of (changes_ok hx hy hn) ?_)
  rw [w_seq]
  refine asg_eq (back_new _ _) ?_
  dsimp only [List.set]
  have hk : (η2 ++ [O.dK backK])[η2.length]? = some (.dK backK) := by simp
  have c3 : Cup 0 (η2 ++ [O.dK backK]) := c2.app
  generalize hη : η2 ++ [O.dK backK] = η3 at hk c3
  generalize η2.length = k at hk
  have hl := run_len x y (n + 1)
  have hlr : (runL x y (n + 1)).length ≤ 1000 := by omega
  rw [w_seq]; simp [-w_seq]
  refine wpR_of (same_rows hlr) ?_
  rw [tt, wpO_some]
  simp [-w_seq]
  refine wpR_of (lead_ok hy hx hn) ?_
  simp [-w_seq, w_lc, w_nx, cmpS]
  refine wpR_of (cmp_of (α := Row) rowD (fun r => rowD (r.1, r.2.back)) _ fun r hr => ⟨_, rfl, rfl, ok_of_wpR1 ?_⟩) ?_
  · simp [wipeD, back_at hk]
    rfl
  rw [show ((runL x y (n + 1)).map fun r => rowD (r.1, r.2.back)) = (runL y x (n + 1)).map rowD by rw [run_back x y, List.map_map]; rfl]
  have hl2 := run_len y x (n + 1)
  refine ⟨szle (by rw [List.length_map]; omega), ?_⟩
  try simp [-w_seq]
  refine wpR_of (same_rows (by omega)) ?_
  rw [tt, wpO_some]
  try simp [-w_seq]
  obtain ⟨f1, f2⟩ := few_run hx hy n
  generalize runL x y (n + 1) = L at *
  rw [w_seq, w_asg, w_lc]; simp [-w_seq, w_nx, cmpS]
  refine wpR_of (cmp_off (α := Row) rowD (fun r => sgD r.2) (fun r => decide (r.2 ≠ .both)) L fun r hr => ⟨_, rfl, ?_, fun _ => rfl⟩) ?_
  · refine ok_of_wpR1 ?_
    have e : ∀ η : Store, neD (sgD r.2) (.str "both") η = some (.bl (decide (r.2 ≠ .both)), η) := fun η => ne_sg r.2 .both
    simp [wipeD, e]
  refine ⟨szle (by rw [List.length_map]; omega), ?_⟩
  rw [w_seq, w_asg, w_lc]; simp [-w_seq, w_nx, cmpS]
  refine wpR_of (cmp_off (α := Row) rowD (fun r => .int r.1) (fun r => decide (r.2 = .both)) L fun r hr => ⟨_, rfl, ?_, fun _ => rfl⟩) ?_
  · refine ok_of_wpR1 ?_
    have e : ∀ η : Store, eqD (sgD r.2) (.str "both") η = some (.bl (decide (r.2 = .both)), η) := fun η => eq_sg r.2 .both
    simp [wipeD, e]
  refine ⟨szle (by rw [List.length_map]; omega), ?_⟩
  have f1' : (L.filter (fun r => !decide (r.2 = .both))).length ≤ 3 := by
    have e : (fun r : Row => !decide (r.2 = .both)) = fun r => decide (r.2 ≠ .both) := funext fun r => by simp
    rw [e]; exact f1
  have eW : (L.filter (fun r => !decide (r.2 = .both))).map (fun r => sgD r.2) = ((L.filter (fun r => !decide (r.2 = .both))).map (·.2)).map sgD := by rw [List.map_map]; rfl
  have eV : (L.filter (fun r => decide (r.2 = .both))).map (fun r => D.int (r.1 : Nat)) = ((L.filter (fun r => decide (r.2 = .both))).map fun r => ((r.1 : Nat) : Int)).map D.int := by rw [List.map_map]; rfl
  have lW : ((L.filter (fun r => !decide (r.2 = .both))).map (·.2)).length ≤ 3 := by rw [List.length_map]; exact f1'
  have lV : ((L.filter (fun r => decide (r.2 = .both))).map fun r => ((r.1 : Nat) : Int)).length ≤ 2 := by rw [List.length_map]; exact f2
  rw [eW, eV]
  generalize (L.filter (fun r => !decide (r.2 = .both))).map (·.2) = W at lW
  generalize (L.filter (fun r => decide (r.2 = .both))).map (fun r => ((r.1 : Nat) : Int)) = V at lV
  rw [w_seq]; simp [-w_seq, w_lc, w_nx, cmpS]
  have eZ : List.zipWith (fun x y => D.tup [x, y]) (W.map sgD) (W.map sgD).tail = (W.zip W.tail).map fun p => .tup [sgD p.1, sgD p.2] := by
    rw [← List.map_tail, zip_maps]
  rw [eZ]
  refine wpR_of (cmp_off (α := Sg × Sg) (fun p => .tup [sgD p.1, sgD p.2]) (fun _ => .int 1) (fun p => decide (p.1 ≠ p.2)) (W.zip W.tail) fun p hp => ⟨_, rfl, ?_, fun _ => rfl⟩) ?_
  · refine ok_of_wpR1 ?_
    simp [wipeD, ne_sg]
  have lZ : ((W.zip W.tail).filter (fun p => decide (p.1 ≠ p.2))).length ≤ 2 := by
    refine Nat.le_trans (List.length_filter_le _ _) ?_
    rw [List.length_zip, List.length_tail]; omega
  refine ⟨szle (by rw [List.length_map]; omega), ?_⟩
  have z1 : ¬ (2 : Int) < ((((W.zip W.tail).filter (fun p => decide (p.1 ≠ p.2))).map fun _ => D.int 1).length : Nat) := by rw [List.length_map]; omega
  simp [-w_seq] at z1 ⊢
  rw [if_neg (by omega), neD_sgs, wpO_some]
  dsimp only
  rw [isB_bl, wpO_some]
  have br : ∀ (b : Bool) (A B : Prop), B → (if b = true then (if 2 < (V.length : Int) then A else B) else B) := fun b A B hB => by
    split
    · rw [if_neg (by omega)]; exact hB
    · exact hB
  refine br _ _ _ ?_
  rw [w_seq, w_asg]; simp [-w_seq]
  refine wpR_of (far_ok hp.p) (wpR_of (far_ok hp.q) (wpR_of (wfar_ok hp) ?_))
  try simp [-w_seq]
  refine wpR_of (final_ok hx hy) (wpR_of (final_ok hy hx) ?_)
  simp [-w_seq, back_at hk]
  rw [last_back hp]
  exact wpR_of (same_two _ _) (q _ c3)
end K92
namespace K92
open PySem PySem.Spec PyProof.Rows L2 Dn
variable {η : Store}
/-! ### plans that meet -/
theorem rows3 {w : Nat → Sg} {k : Nat} (hk : 1 ≤ k) (h : ∀ n, w n = if n < k then .one else if n = k then .both else .other) :
    ∀ n, rows w (n + 1) = if n < k then [(0, .one)] else if n = k then [(0, .one), (k, .both)] else [(0, .one), (k, .both), (k + 1, .other)]
  | 0 => by
    show put [] 0 (w 0) = _
    rw [h 0, if_pos (by omega), if_pos (by omega)]; rfl
  | n + 1 => by
    show put (rows w (n + 1)) (n + 1) (w (n + 1)) = _
    rw [rows3 hk h n, h (n + 1)]
    rcases Nat.lt_trichotomy (n + 1) k with c | c | c
    · rw [if_pos (by omega), if_pos c, if_pos c]; rfl
    · rw [if_pos (by omega), if_neg (by omega), if_pos c, if_neg (by omega), if_pos c, ← c]; rfl
    · rw [if_neg (by omega), if_neg (show ¬ n + 1 < k by omega), if_neg (show ¬ n + 1 = k by omega), if_neg (show ¬ n + 1 < k by omega), if_neg (show ¬ n + 1 = k by omega)]
      by_cases c2 : n = k
      · rw [if_pos c2, c2]; rfl
      · rw [if_neg c2]; rfl
theorem rows1 {w : Nat → Sg} {x : Sg} (h : ∀ n, w n = x) : ∀ n, rows w (n + 1) = [(0, x)]
  | 0 => by show put [] 0 (w 0) = _; rw [h 0]; rfl
  | n + 1 => by
    show put (rows w (n + 1)) (n + 1) (w (n + 1)) = _
    rw [rows1 h n, h (n + 1)]
    unfold put
    simp
theorem meet_eq {T s m n : Nat} : fD ⟨T * m, s, 0, 1⟩ ⟨0, s + m, 0, 1⟩ n = (m : Int) * ((T : Int) - n) := by
  unfold fD
  rw [To_flat rfl, To_flat rfl]
  have e : ∀ a b : Nat, Bl ⟨a, b, 0, 1⟩ n = 1 := fun a b => Nat.one_pow n
  rw [e, e]
  simp only [Int.natCast_mul, Int.natCast_add]
  grind
theorem meet_run {T s m n : Nat} (hT : 1 ≤ T) (hm : 1 ≤ m) (hn : T < n) : runL ⟨T * m, s, 0, 1⟩ ⟨0, s + m, 0, 1⟩ (n + 1) = [(0, .one), (T, .both), (T + 1, .other)] := by
  unfold runL
  rw [rows3 (k := T) hT fun n => ?_, if_neg (by omega), if_neg (by omega)]
  rw [meet_eq, sg_mul (by omega)]
  rcases Nat.lt_trichotomy n T with c | c | c
  · rw [if_pos c, sg_pos (by omega)]
  · rw [if_neg (by omega), if_pos c, c, Int.sub_self]; rfl
  · rw [if_neg (by omega), if_neg (by omega), sg_neg' (by omega)]
theorem meet_last {T s m : Nat} (hm : 1 ≤ m) : lw ⟨T * m, s, 0, 1⟩ ⟨0, s + m, 0, 1⟩ = .other := by
  have e : ∀ a b, rate ⟨a, s, 0, 1⟩ ⟨b, s + m, 0, 1⟩ = .both := fun a b => rfl
  unfold lw
  rw [e, if_neg (fun z => by cases z.1), if_neg (fun z => by cases z.1), if_pos rfl]
  unfold evens
  rw [if_pos rfl]
  dsimp only
  rw [sg_neg' (by omega)]
  rfl
theorem twice_run : runL ⟨0, 30, 0, 1⟩ ⟨1, 14, 1, 1⟩ 41 = [(0, .other), (1, .one), (3, .other)] := by decide +kernel
theorem twice_last : lw ⟨0, 30, 0, 1⟩ ⟨1, 14, 1, 1⟩ = .other := by decide +kernel
theorem self_run (p : Pl) (n : Nat) : runL p p (n + 1) = [(0, .both)] := by
  unfold runL
  exact rows1 (fun n => by unfold fD; rw [Int.sub_self]; rfl) n
theorem same_rw {L : List Row} {x : Sg} (hl : L.length ≤ 1000) : F__law_same 4 [.tup [.tup (L.map rowD), sgD x], .tup [.tup (L.map rowD), sgD x]] η = .ok (.bl true) η := same_ok 3 _ _ (by
  have := sm_rows 0 hl
  unfold D.sm
  simp [this, sm_sg])
theorem same_end {L : List Row} {x y : Sg} (hl : L.length ≤ 1000) : F__law_same 4 [.tup [sgD x, sgD y, .tup (L.map rowD)], .tup [sgD x, sgD y, .tup (L.map rowD)]] η = .ok (.bl true) η := same_ok 3 _ _ (by
  have := sm_rows 0 hl
  unfold D.sm
  simp [this, sm_sg])
theorem met_ok (c : Cup 0 η) {Q : D → Store → Prop} {E : Ex → Store → Prop} (q : ∀ η', Q (.bl true) η') : wpR (F__law_met_right [.obj 0] η) Q E := by
  have tt : ∀ η : Store, truD (.bl true) η = some true := fun _ => rfl
  unfold F__law_met_right b__law_met_right
  rw [w_runF]
  rw [w_seq]; simp [-w_seq]
  refine roll_ok.wp c (by decide) (by decide) fun r1 η1 h1 h2 c1 _ => ?_
  try simp [-w_seq]
  refine roll_ok.wp c1 (by decide) (by decide) fun r2 η2 h3 h4 c2 _ => ?_
  try simp [-w_seq]
  refine roll_ok.wp c2 (by decide) (by decide) fun r3 η3 h5 h6 c3 _ => ?_
  try simp [-w_seq]
  obtain ⟨T, eT, hT1, hT2⟩ : ∃ T : Nat, 1 + r1 = T ∧ 1 ≤ T ∧ T ≤ 200 := ⟨(1 + r1).toNat, by omega, by omega, by omega⟩
  obtain ⟨s, es, hs1, hs2⟩ : ∃ s : Nat, 1 + r2 = s ∧ 1 ≤ s ∧ s ≤ 50 := ⟨(1 + r2).toNat, by omega, by omega, by omega⟩
  obtain ⟨m, em, hm1, hm2⟩ : ∃ m : Nat, 1 + r3 = m ∧ 1 ≤ m ∧ m ≤ 50 := ⟨(1 + r3).toNat, by omega, by omega, by omega⟩
  rw [eT, es, em]
  have hTm : T * m ≤ 200 * 50 := Nat.mul_le_mul hT2 hm2
  rw [w_seq]; simp [-w_seq]
  refine ⟨mulOk_l (by omega) (by omega), ?_⟩
  have eS : D.tup [.int ((T : Int) * m), .int s, .int 0, .int 1] = Pl.D ⟨T * m, s, 0, 1⟩ := by simp [Pl.D]
  have eF : D.tup [.int 0, .int ((s : Int) + m), .int 0, .int 1] = Pl.D ⟨0, s + m, 0, 1⟩ := by simp [Pl.D]
  rw [eS, eF]
  have oS : Pl.Ok ⟨T * m, s, 0, 1⟩ := ⟨by show T * m ≤ 1000000; omega, by show s ≤ 1000000; omega, Nat.le_refl _, by show 1 ≤ 10000; decide, Nat.zero_le _⟩
  have oF : Pl.Ok ⟨0, s + m, 0, 1⟩ := ⟨Nat.zero_le _, by show s + m ≤ 1000000; omega, Nat.le_refl _, by show 1 ≤ 10000; decide, Nat.zero_le _⟩
  have hrun := meet_run (s := s) (n := 300) hT1 hm1 (by omega)
  have hlast := meet_last (T := T) (s := s) hm1
  generalize (⟨T * m, s, 0, 1⟩ : Pl) = S at oS hrun hlast
  generalize (⟨0, s + m, 0, 1⟩ : Pl) = F at oF hrun hlast
  rw [w_seq]; simp [-w_seq]
  rw [if_pos (by omega)]
  have eD : D.tup [.tup [.int 0, .str "one"], .tup [.int T, .str "both"], .tup [.int ((T : Int) + 1), .str "other"]] = .tup ([(0, Sg.one), (T, .both), (T + 1, .other)].map rowD) := by simp [rowD, sgD, Sg.str]
  rw [eD, ← hrun]
  have eO : ∀ η : Store, F__law_same 4 [.tup [.tup ((runL S F (300 + 1)).map rowD), sgD (lw S F)], .tup [.tup ((runL S F (300 + 1)).map rowD), .str "other"]] η = .ok (.bl true) η := fun η => by
    have := same_rw (η := η) (L := runL S F (300 + 1)) (x := .other) (by have := run_len S F (300 + 1); omega)
    rw [hlast]; exact this
  rw [w_seq]; simp [-w_seq]
  refine wpR_of (lead_ok oS oF (n := 300) (by decide)) (wpR_of (final_ok oS oF) ?_)
  refine wpR_of (eO _) ?_
  rw [tt, wpO_some]
  try simp [-w_seq]
  rw [w_seq]; simp [-w_seq]
  rw [w_seq]; simp [-w_seq]
  have eP : D.tup [.int 0, .int 30, .int 0, .int 1] = Pl.D ⟨0, 30, 0, 1⟩ := rfl
  have eG : D.tup [.int 1, .int 14, .int 1, .int 1] = Pl.D ⟨1, 14, 1, 1⟩ := rfl
  rw [eP, eG]
  have oP : Pl.Ok ⟨0, 30, 0, 1⟩ := ⟨by decide, by decide, by decide, by decide, by decide⟩
  have oG : Pl.Ok ⟨1, 14, 1, 1⟩ := ⟨by decide, by decide, by decide, by decide, by decide⟩
  have hrun2 := twice_run
  have hlast2 := twice_last
  generalize (⟨0, 30, 0, 1⟩ : Pl) = P at oP hrun2 hlast2
  generalize (⟨1, 14, 1, 1⟩ : Pl) = G at oG hrun2 hlast2
  have eT2 : D.tup [.tup [.int 0, .str "other"], .tup [.int 1, .str "one"], .tup [.int 3, .str "other"]] = .tup ([(0, Sg.other), (1, .one), (3, .other)].map rowD) := by simp [rowD, sgD, Sg.str]
  rw [eT2, ← hrun2]
  have eO2 : ∀ η : Store, F__law_same 4 [.tup [.tup ((runL P G (40 + 1)).map rowD), sgD (lw P G)], .tup [.tup ((runL P G 41).map rowD), .str "other"]] η = .ok (.bl true) η := fun η => by
    have := same_rw (η := η) (L := runL P G 41) (x := .other) (by have := run_len P G 41; omega)
    rw [hlast2]; exact this
  rw [w_seq]; simp [-w_seq]
  refine wpR_of (lead_ok oP oG (n := 40) (by decide)) (wpR_of (final_ok oP oG) ?_)
  refine wpR_of (eO2 _) ?_
  rw [tt, wpO_some]
  try simp [-w_seq]
  rw [w_seq]; simp [-w_seq]
  refine plan_ok (a := 1000000) (b := 10000) c3 (by decide) (by decide) (by decide) fun x η4 a1 a2 a3 a4 a5 c4 => ?_
  try simp [-w_seq]
  have ox : x.Ok := ⟨a1, a2, a3, a4, a5⟩
  rw [w_seq]; simp [-w_seq]
  refine plan_ok (a := 9) (b := 10000) c4 (by decide) (by decide) (by decide) fun y η5 b1 b2 b3 b4 b5 c5 => ?_
  have cut3 : slD y.D (some 2) none η5 = some (.tup [.int y.m, .int y.o], η5) := rfl
  have i0 : ixD x.D (.int 0) η5 = some (.int x.s, η5) := rfl
  have i1 : ixD x.D (.int 1) η5 = some (.int x.d, η5) := rfl
  rw [cut3, wpO_some]
  try simp [-w_seq]
  have eN : D.tup [.int 0, .int 0, .int y.m, .int y.o] = Pl.D ⟨0, 0, y.m, y.o⟩ := rfl
  have oN : Pl.Ok ⟨0, 0, y.m, y.o⟩ := ⟨Nat.zero_le _, Nat.zero_le _, b3, b4, b5⟩
  have hlast3 : lw x ⟨0, 0, y.m, y.o⟩ = if x.s + x.d = 0 then .both else .one := last_empty a3 b3 ⟨rfl, rfl⟩
  rw [eN]
  generalize (⟨0, 0, y.m, y.o⟩ : Pl) = N at oN hlast3
  have fin : ∀ (η : Store), lw x N = (if x.s + x.d = 0 then .both else .one) → F__law_same 4 [.tup [sgD (lw x N), sgD (lw x x), .tup ((runL x x (300 + 1)).map rowD)], .tup [sgD (if x.s + x.d = 0 then .both else .one), .str "both", .tup [.tup [.int 0, .str "both"]]]] η = .ok (.bl true) η := fun η e => by
    have := same_end (η := η) (L := runL x x (300 + 1)) (x := lw x N) (y := lw x x) (by have := run_len x x (300 + 1); omega)
    rw [e] at this ⊢
    have e2 : D.tup [.tup [.int 0, .str "both"]] = .tup ((runL x x (300 + 1)).map rowD) := by rw [self_run]; simp [rowD, sgD, Sg.str]
    have e3 : D.str "both" = sgD (lw x x) := by rw [last_self]; rfl
    rw [e2]
    conv => lhs; rw [e3]
    exact this
  rw [w_seq]; simp [-w_seq, i0, i1]
  have go : ∀ (d : D), d = sgD (if x.s + x.d = 0 then .both else .one) → wpR (F_final_leader [x.D, N.D] η5) (fun d1 η => wpR (F_final_leader [x.D, x.D] η) (fun d2 η => wpR (F_lead_changes [x.D, x.D, .int 300] η) (fun d3 η => wpR (F__law_same 4 [.tup [d1, d2, d3], .tup [d, .str "both", .tup [.tup [.int 0, .str "both"]]]] η) Q E) E) E) E := fun d hd => by
    subst hd
    refine wpR_of (final_ok ox oN) (wpR_of (final_ok ox ox) (wpR_of (lead_ok ox ox (n := 300) (by decide)) ?_))
    exact wpR_of (fin _ hlast3) (q _)
  by_cases z : x.s + x.d = 0
  · rw [if_pos (by omega)]
    exact go _ (by rw [if_pos z]; rfl)
  · rw [if_neg (by omega)]
    exact go _ (by rw [if_neg z]; rfl)
end K92
namespace K92
open PySem PySem.Spec PyProof.Rows L2 Dn
variable {η : Store}
theorem bal_end : F_balance [.tup [.int 0, .int 30, .int 0, .int 1], .int 3] η = .ok (.tup [.int 90, .int 1]) η := by
  have h : Pl.Ok ⟨0, 30, 0, 1⟩ := ⟨by decide, by decide, by decide, by decide, by decide⟩
  have e := balance_ok (η := η) h (n := 3) (by decide)
  have e2 : lowD (To ⟨0, 30, 0, 1⟩ 3) (Bl ⟨0, 30, 0, 1⟩ 3) = .tup [.int 90, .int 1] := by
    have t : To ⟨0, 30, 0, 1⟩ 3 = 90 := by decide
    have b : Bl ⟨0, 30, 0, 1⟩ 3 = 1 := by decide
    rw [t, b]; rfl
  rw [e2] at e
  exact e
theorem law_true : ∀ ns : List Int, ns.length ≤ 63 → ∃ η', F_law [.scr (ns.map D.int)] [] = .ok (.bl true) η' := by
  intro ns hl
  have tt : ∀ η : Store, truD (.bl true) η = some true := fun _ => rfl
  refine (fun (h : wpR (F_law [.scr (ns.map D.int)] []) (fun d _ => d = .bl true) (fun _ _ => False)) => ?_) ?_
  · obtain ⟨a, η', e, rfl⟩ := ok_of_wpR h
    exact ⟨η', e⟩
  unfold F_law b_law
  rw [w_runF]
  obtain ⟨η1, e1, c1⟩ := cup_ok ns hl
  simp
  refine wpR_of e1 ?_
  rw [w_for]
  simp
  refine ⟨by decide, ?_⟩
  refine w_forL (fun _ ρ η => Cup 0 η ∧ ∃ y0 y2 : Option D, ρ = [y0, some (.obj 0), y2]) _ 0 ⟨c1, _, _, rfl⟩ ?_ ?_
  · rintro j x hx ρ η2 ⟨c2, y0, y2, rfl⟩
    rw [b_bN, wpO_some]
    unfold b_law_1
    simp
    refine right_ok c2 fun η3 c3 => ?_
    rw [tt, wpO_some]
    simp
    exact c3
  · rintro ρ η2 ⟨c2, y0, y2, rfl⟩
    simp
    refine met_ok c2 fun η3 => ?_
    rw [tt, wpO_some]
    simp
    refine wpR_of bal_end ?_
    exact wpR_of (same_ok 3 _ _ (by rfl)) rfl
end K92
namespace K92
open PySem PySem.Spec PyProof.Rows L2 Dn
/-! ### the head -/
def fn : List He.DefD := ([dfn "is_whole" (top 5), dfn "fits_whole" (top 6), dfn "is_tuple_of" (top 7), dfn "common_divisor" (top 8), dfn "fits_plan" (top 13), dfn "need_plan" (top 14), dfn "need_number" (top 15), dfn "power_of" (top 16), dfn "parts_in" (top 17), dfn "held_in" (top 18), dfn "lowest" (top 19), dfn "word_for" (top 21), dfn "who_leads" (top 20), dfn "terms_of" (top 22), dfn "compared" (top 23), dfn "rest_word" (top 25), dfn "last_word" (top 24), dfn "balance" (top 26), dfn "lead_changes" (top 27), dfn "final_leader" (top 28), dfn "_law_cup" (top 30), dfn "_law_roll" (top 31), dfn "_law_some" (top 32), dfn "_law_same" (top 33), dfn "_law_plan" (top 34), dfn "_law_steps" (top 35), dfn "_law_word_for" (top 36), dfn "_law_far" (top 37), dfn "_law_pair" (top 38), dfn "_law_changes" (top 39)] : List He.DefD) ++ ([dfn "_law_right" (top 40), dfn "_law_met_right" (top 41), dfn "law" (top 42)] : List He.DefD)
def fa : List He.Fa := ([.glo "is_whole", .glo "fits_whole", .glo "is_tuple_of", .glo "common_divisor", .glo "fits_plan", .glo "need_plan", .glo "need_number", .glo "power_of", .glo "parts_in", .glo "held_in", .glo "lowest", .glo "word_for", .glo "who_leads", .glo "terms_of", .glo "compared", .glo "rest_word", .glo "last_word", .glo "balance", .glo "lead_changes", .glo "final_leader", .glo "_law_cup", .glo "_law_roll", .glo "_law_some", .glo "_law_same", .glo "_law_plan", .glo "_law_steps", .glo "_law_word_for", .glo "_law_far", .glo "_law_pair", .glo "_law_changes"] : List He.Fa) ++ ([.glo "_law_right", .glo "_law_met_right", .glo "law", .free "isinstance", .free "int", .free "bool", .free "tuple", .free "len", .free "all", .free "abs", .free "range", .free "list", .free "str", .free "min", .free "enumerate", .free "zip", .int "GREAT" 1000000, .int "RATE" 10000, .int "PERIODS" 300, .glo "InvalidCosts", .glo "InvalidNumber", .exc "InvalidCosts", .exc "InvalidNumber"] : List He.Fa)
def tsm : List He.Tab := []
def exl (K : PySem.W.Frag) : List Bool := [tabX K tfs]
def ex (K : PySem.W.Frag) : Bool := allB (exl K)
theorem fx_of {w : World} {K : PySem.W.Frag} {h : Heap} {mg : Str → Option Value} (X : K.In h) (G : h.Ns mainGlobals mg) (c : He.SaysD fa fn K) (m : allB (exl K) = true) : Fx K mg :=
  ⟨fn1_of X G c 0 0 rfl rfl,
  fn1_of X G c 1 1 rfl rfl,
  fn1_of X G c 2 2 rfl rfl,
  fn1_of X G c 3 3 rfl rfl,
  fn1_of X G c 4 4 rfl rfl,
  fn1_of X G c 5 5 rfl rfl,
  fn1_of X G c 6 6 rfl rfl,
  fn1_of X G c 7 7 rfl rfl,
  fn1_of X G c 8 8 rfl rfl,
  fn1_of X G c 9 9 rfl rfl,
  fn1_of X G c 10 10 rfl rfl,
  fn1_of X G c 11 11 rfl rfl,
  fn1_of X G c 12 12 rfl rfl,
  fn1_of X G c 13 13 rfl rfl,
  fn1_of X G c 14 14 rfl rfl,
  fn1_of X G c 15 15 rfl rfl,
  fn1_of X G c 16 16 rfl rfl,
  fn1_of X G c 17 17 rfl rfl,
  fn1_of X G c 18 18 rfl rfl,
  fn1_of X G c 19 19 rfl rfl,
  fn1_of X G c 20 20 rfl rfl,
  fn1_of X G c 21 21 rfl rfl,
  fn1_of X G c 22 22 rfl rfl,
  fn1_of X G c 23 23 rfl rfl,
  fn1_of X G c 24 24 rfl rfl,
  fn1_of X G c 25 25 rfl rfl,
  fn1_of X G c 26 26 rfl rfl,
  fn1_of X G c 27 27 rfl rfl,
  fn1_of X G c 28 28 rfl rfl,
  fn1_of X G c 29 29 rfl rfl,
  fn1_of X G c 30 30 rfl rfl,
  fn1_of X G c 31 31 rfl rfl,
  fn1_of X G c 32 32 rfl rfl,
  He.free_ok X G (c.fact 33 (f := .free "isinstance") rfl),
  He.free_ok X G (c.fact 34 (f := .free "int") rfl),
  He.free_ok X G (c.fact 35 (f := .free "bool") rfl),
  He.free_ok X G (c.fact 36 (f := .free "tuple") rfl),
  He.free_ok X G (c.fact 37 (f := .free "len") rfl),
  He.free_ok X G (c.fact 38 (f := .free "all") rfl),
  He.free_ok X G (c.fact 39 (f := .free "abs") rfl),
  He.free_ok X G (c.fact 40 (f := .free "range") rfl),
  He.free_ok X G (c.fact 41 (f := .free "list") rfl),
  He.free_ok X G (c.fact 42 (f := .free "str") rfl),
  He.free_ok X G (c.fact 43 (f := .free "min") rfl),
  He.free_ok X G (c.fact 44 (f := .free "enumerate") rfl),
  He.free_ok X G (c.fact 45 (f := .free "zip") rfl),
  He.int_ok X G (c.fact 46 (f := .int "GREAT" 1000000) rfl),
  He.int_ok X G (c.fact 47 (f := .int "RATE" 10000) rfl),
  He.int_ok X G (c.fact 48 (f := .int "PERIODS" 300) rfl),
  He.glo_ok X G (c.fact 49 (f := .glo "InvalidCosts") rfl),
  He.glo_ok X G (c.fact 50 (f := .glo "InvalidNumber") rfl),
  excK_of X G (c.fact 49 (f := .glo "InvalidCosts") rfl) (c.fact 51 (f := .exc "InvalidCosts") rfl),
  excK_of X G (c.fact 50 (f := .glo "InvalidNumber") rfl) (c.fact 52 (f := .exc "InvalidNumber") rfl),
  allB_at m 0 rfl⟩
abbrev R : PySem.W.OpenRow := PySem.W.OpenLaw.row PySem.Challenge.rw_coinmaster_k92_whole_leads_of_savings
abbrev tfd : List He.Defn := tfs.map fun x => (x, none)
abbrev hk : PySem.W.Hook := He.hookX 4 fa fn tsm tfd ex
def ob (s : PySem.W.SharedT) : He.AlX := He.obsX 4 fa fn tsm tfd ex (HandSHeadRun.getT s)
theorem ob_eq (s : PySem.W.SharedT) : ob s = hk.obs s.abs := He.obsX_eq (HandSHeadRun.getT_eq s)
def loose : List Str := (["MintError", "InvalidCosts", "InvalidNumber", "is_whole", "fits_whole", "is_tuple_of", "common_divisor", "GREAT", "RATE", "PERIODS", "fits_plan", "need_plan", "need_number", "power_of", "parts_in", "held_in", "lowest", "who_leads", "word_for", "terms_of", "compared", "last_word", "rest_word", "balance", "lead_changes", "final_leader", "_law_cup", "_law_roll", "_law_some", "_law_same"] : List Str) ++ (["_law_plan", "_law_steps", "_law_word_for", "_law_far", "_law_pair", "_law_changes", "_law_right", "_law_met_right"] : List Str)
theorem run (w : World) : HandSHeadRun.RunEq R (PySem.W.view R.prog [42]) hk ob 4000 loose w := by
  intro os
  kernel_rfl
end K92
open PySem PySem.W PySem.Calls PyProof.Rows
theorem PySem.Challenge.cw_coinmaster_k92_whole_leads_of_savings_holds : PySem.Challenge.rw_coinmaster_k92_whole_leads_of_savings.Holds := by
  w_on; o_law
  refine HandSHeadRun.head_any (r := OpenLaw.row PySem.Challenge.rw_coinmaster_k92_whole_leads_of_savings) (q := view (OpenLaw.row PySem.Challenge.rw_coinmaster_k92_whole_leads_of_savings).prog [42]) (H := K92.hk) (ob := K92.ob) (M := 4000) (loose := K92.loose) (d := HandSHeadRun.topDef (OpenLaw.row PySem.Challenge.rw_coinmaster_k92_whole_leads_of_savings).prog 42) (kwd := []) K92.ob_eq
    (by kernel_rfl) (fun s => by kernel_rfl) K92.run (by kernel_rfl) (by kernel_rfl) (by kernel_rfl) (by rfl) (by first | assumption | decide +kernel) (by decide +kernel) ⟨rfl, rfl, rfl, rfl, rfl, by decide +kernel⟩ ?hw ?hc
  case hw => w_witness2
  case hc =>
    refine LamX.walk_ofTsE (l := PySem.Challenge.rw_coinmaster_k92_whole_leads_of_savings) (n := 63) (k := 7) (x := "script") (CX := fun _ => C8.CX0) rfl (by decide) (by kernel_rfl) ⟨rfl, by decide, by decide⟩ ?F (fun _ _ _ _ _ z => z)
    intro w mg fa h Y G hmg0
    obtain ⟨K, KX, c⟩ := Y
    have hmg : mg ("law" : PySem.Str) = some (.ref fa) := by
      have e : (HandSHeadRun.topDef (OpenLaw.row PySem.Challenge.rw_coinmaster_k92_whole_leads_of_savings).prog 42).name = ("law" : PySem.Str) := by kernel_rfl
      rw [← e]
      exact hmg0
    have S := K92.fx_of (w := w) KX G c.t.d c.more
    obtain ⟨fd, F⟩ := S.f_law.f
    have e := hmg.symm.trans S.f_law.g
    cases e
    have b := L2.FunD.bindsA (ps := ["script"]) F fun _ _ _ _ _ _ us hl => match us, hl with | [_], _ => rfl
    exact ⟨K, KX, Dn.law_atS KX c S.tab (fun s v => b s [v] rfl) K92.law_true (fun base _ _ T => K92.law_fn S T F)⟩
